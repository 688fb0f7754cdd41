import PyProof.Rows.All
import HandS.DictComp
import Wide.All
import OpenK.AllK
import Wide.FinOn
import HandS.ForMost
import HandS.ForExc
import HandS.Walk
import HandS.IsInst
import HandS.Zip
import HandS.Conv
import HandS.TupAny
import HandS.TupMul
import HandS.TupLe
import HandS.Flow
import HandS.Deep
import HandS.RaiseMore
import HandS.Style
import HandS.SlotsOwn
import HandS.More
import HandS.Text
import HandS.WordsDict
import HandS.Codes
import HandS.SetTxt0
import HandS.Set
import PyProof.Rows.SortShellSt
import HandS.EndBits
import KE.KSortTupG
import HandS.TupSets
import HandS.TryOnly
import PySem.Challenge.RW_thricenothing_k24_turned_rows
set_option Elab.async false
set_option linter.all false
set_option maxRecDepth 100000
set_option maxHeartbeats 40000001
set_option autoImplicit false
namespace Thr
open PySem PySem.Spec PyProof.Rows L2

/-! ### plain data -/
inductive D where
  | non | bl (b : Bool) | int (i : Int) | str (s : List Nat)
  | tup (xs : List D) | lst (xs : List D) | rol (xs : List D) | dic (ks vs : List D) | cel (n : Nat) | typ (n : String)

abbrev mkS (l : List Nat) : Str := ⟨l.toArray⟩
theorem mkS_toList (l : List Nat) : (mkS l).cps.toList = l := by simp [mkS]
theorem mkS_len (l : List Nat) : (mkS l).length = l.length := by simp [mkS, Str.length]
theorem mkS_of (s : Str) : mkS s.cps.toList = s := by cases s; simp [mkS]
theorem mkS_inj {a b : List Nat} (h : mkS a = mkS b) : a = b := by
  have := congrArg (fun s : Str => s.cps.toList) h
  simpa [mkS] using this

def keyD : D → Option Key
  | .int i => some (.inl i)
  | .str s => some (.inr (mkS s))
  | _ => none

def Ex (F F' : Hp) : Prop := ∀ a o, F a = some o → F' a = some o
theorem Ex.refl (F : Hp) : Ex F F := fun _ _ h => h
theorem Ex.trans {F G H : Hp} (a : Ex F G) (b : Ex G H) : Ex F H := fun x o h => b x o (a x o h)
theorem Ex.new {H : Hp} {p : Addr} {o : HO} (h : H p = none) : Ex H (upd H p o) := fun a u e => by
  rw [upd_ne (ne_of_none e h)]; exact e
theorem Ex.rd {F F' : Hp} {a : Addr} {u : HO} (e : Ex F F') (h : Rd F a u) : Rd F' a u := by
  rcases h with h | ⟨o, h⟩
  · exact Or.inl (e a _ h)
  · exact Or.inr ⟨o, e a _ h⟩
theorem Ex.l {K : PySem.W.Frag} {F F' : Hp} {a : Addr} {xs : List V} (e : Ex F F') (h : SqL K F a xs) : SqL K F' a xs := by
  rcases h with h | h
  · exact Or.inl (e.rd h)
  · exact Or.inr h
theorem Ex.t {K : PySem.W.Frag} {F F' : Hp} {a : Addr} {xs : List V} (e : Ex F F') (h : SqT K F a xs) : SqT K F' a xs := by
  rcases h with h | h
  · exact Or.inl (e.rd h)
  · exact Or.inr h

mutual
def R (K : PySem.W.Frag) (F : Hp) (A : List Addr) : D → V → Prop
  | .non, v => v = .non
  | .bl b, v => v = .bl b
  | .int i, v => v = .int i
  | .str s, v => v = .str (mkS s)
  | .tup xs, v => ∃ a vs, v = .ref a ∧ SqT K F a vs ∧ Rs K F A xs vs
  | .lst xs, v => ∃ a vs, v = .ref a ∧ F a = some (.lst vs) ∧ Rs K F A xs vs
  | .rol xs, v => ∃ a vs, v = .ref a ∧ SqL K F a vs ∧ Rs K F A xs vs
  | .dic ks ds, v => ∃ a kvs, v = .ref a ∧ F a = some (.dK kvs) ∧ ks.map keyD = kvs.map (fun p => some p.1) ∧ Rs K F A ds (kvs.map (·.2))
  | .cel n, v => ∃ a, v = .ref a ∧ A[n]? = some a
  | .typ n, v => v = .ty n
def Rs (K : PySem.W.Frag) (F : Hp) (A : List Addr) : List D → List V → Prop
  | [], vs => vs = []
  | x :: xs, vs => ∃ v r, vs = v :: r ∧ R K F A x v ∧ Rs K F A xs r
end

structure Le (F : Hp) (A : List Addr) (F' : Hp) (A' : List Addr) : Prop where
  ex : Ex F F'
  pre : ∀ (n : Nat) a, A[n]? = some a → A'[n]? = some a
theorem Le.refl (F : Hp) (A : List Addr) : Le F A F A := ⟨Ex.refl F, fun _ _ h => h⟩
theorem Le.trans {F G H : Hp} {A B C : List Addr} (x : Le F A G B) (y : Le G B H C) : Le F A H C := ⟨x.ex.trans y.ex, fun n a h => y.pre n a (x.pre n a h)⟩

section
variable {K : PySem.W.Frag} {F F' : Hp} {A A' : List Addr}
mutual
theorem R_mono (e : Le F A F' A') : ∀ (d : D) (v : V), R K F A d v → R K F' A' d v
  | .non, v, h => by unfold R at h ⊢; exact h
  | .bl b, v, h => by unfold R at h ⊢; exact h
  | .int i, v, h => by unfold R at h ⊢; exact h
  | .str s, v, h => by unfold R at h ⊢; exact h
  | .tup xs, v, h => by
    unfold R at h ⊢
    obtain ⟨a, vs, h1, h2, h3⟩ := h
    exact ⟨a, vs, h1, e.ex.t h2, Rs_mono e xs vs h3⟩
  | .lst xs, v, h => by
    unfold R at h ⊢
    obtain ⟨a, vs, h1, h2, h3⟩ := h
    exact ⟨a, vs, h1, e.ex _ _ h2, Rs_mono e xs vs h3⟩
  | .rol xs, v, h => by
    unfold R at h ⊢
    obtain ⟨a, vs, h1, h2, h3⟩ := h
    exact ⟨a, vs, h1, e.ex.l h2, Rs_mono e xs vs h3⟩
  | .dic ks ds, v, h => by
    unfold R at h ⊢
    obtain ⟨a, kvs, h1, h2, h3, h4⟩ := h
    exact ⟨a, kvs, h1, e.ex _ _ h2, h3, Rs_mono e ds _ h4⟩
  | .cel n, v, h => by
    unfold R at h ⊢
    obtain ⟨a, h1, h2⟩ := h
    exact ⟨a, h1, e.pre _ _ h2⟩
  | .typ n, v, h => by unfold R at h ⊢; exact h
theorem Rs_mono (e : Le F A F' A') : ∀ (ds : List D) (vs : List V), Rs K F A ds vs → Rs K F' A' ds vs
  | [], vs, h => by unfold Rs at h ⊢; exact h
  | d :: ds, vs, h => by
    unfold Rs at h ⊢
    obtain ⟨v, r, h1, h2, h3⟩ := h
    exact ⟨v, r, h1, R_mono e d v h2, Rs_mono e ds r h3⟩
end
theorem R_non {v : V} : R K F A .non v ↔ v = .non := by unfold R; exact Iff.rfl
theorem R_bl {v : V} {b : Bool} : R K F A (.bl b) v ↔ v = .bl b := by unfold R; exact Iff.rfl
theorem R_int {v : V} {i : Int} : R K F A (.int i) v ↔ v = .int i := by unfold R; exact Iff.rfl
theorem R_str {v : V} {s : List Nat} : R K F A (.str s) v ↔ v = .str (mkS s) := by unfold R; exact Iff.rfl
theorem R_tup {v : V} {xs : List D} : R K F A (.tup xs) v ↔ ∃ a vs, v = .ref a ∧ SqT K F a vs ∧ Rs K F A xs vs := by rw [R]
theorem R_lst {v : V} {xs : List D} : R K F A (.lst xs) v ↔ ∃ a vs, v = .ref a ∧ F a = some (.lst vs) ∧ Rs K F A xs vs := by rw [R]
theorem R_rol {v : V} {xs : List D} : R K F A (.rol xs) v ↔ ∃ a vs, v = .ref a ∧ SqL K F a vs ∧ Rs K F A xs vs := by rw [R]
theorem R_dic {v : V} {ks ds : List D} : R K F A (.dic ks ds) v ↔ ∃ a kvs, v = .ref a ∧ F a = some (.dK kvs) ∧ ks.map keyD = kvs.map (fun p => some p.1) ∧ Rs K F A ds (kvs.map (·.2)) := by rw [R]
theorem R_typ {v : V} {n : String} : R K F A (.typ n) v ↔ v = .ty n := by unfold R; exact Iff.rfl
theorem R_cel {v : V} {n : Nat} : R K F A (.cel n) v ↔ ∃ a, v = .ref a ∧ A[n]? = some a := by rw [R]
theorem Rs_nil {vs : List V} : Rs K F A [] vs ↔ vs = [] := by unfold Rs; exact Iff.rfl
theorem Rs_cons {x : D} {xs : List D} {vs : List V} : Rs K F A (x :: xs) vs ↔ ∃ v r, vs = v :: r ∧ R K F A x v ∧ Rs K F A xs r := by rw [Rs]
theorem Rs_len : ∀ {ds : List D} {vs : List V}, Rs K F A ds vs → ds.length = vs.length
  | [], vs, h => by rw [Rs_nil] at h; subst h; rfl
  | d :: ds, vs, h => by
    obtain ⟨v, r, rfl, _, h3⟩ := Rs_cons.mp h
    simp [Rs_len h3]
theorem Rs_get : ∀ {ds : List D} {vs : List V} {i : Nat} {d : D}, Rs K F A ds vs → ds[i]? = some d → ∃ v, vs[i]? = some v ∧ R K F A d v
  | [], _, _, _, _, e => by simp at e
  | x :: ds, vs, 0, d, h, e => by
    obtain ⟨v, r, rfl, h2, _⟩ := Rs_cons.mp h
    simp at e; subst e
    exact ⟨v, by simp, h2⟩
  | x :: ds, vs, i + 1, d, h, e => by
    obtain ⟨v, r, rfl, _, h3⟩ := Rs_cons.mp h
    simp at e
    obtain ⟨u, h4, h5⟩ := Rs_get h3 e
    exact ⟨u, by simpa using h4, h5⟩
theorem Rs_getV : ∀ {ds : List D} {vs : List V} {i : Nat} {v : V}, Rs K F A ds vs → vs[i]? = some v → ∃ d, ds[i]? = some d ∧ R K F A d v
  | [], vs, i, v, h, e => by rw [Rs_nil] at h; subst h; simp at e
  | x :: ds, vs, 0, v, h, e => by
    obtain ⟨w, r, rfl, h2, _⟩ := Rs_cons.mp h
    simp at e; subst e
    exact ⟨x, by simp, h2⟩
  | x :: ds, vs, i + 1, v, h, e => by
    obtain ⟨w, r, rfl, _, h3⟩ := Rs_cons.mp h
    simp at e
    obtain ⟨u, h4, h5⟩ := Rs_getV h3 e
    exact ⟨u, by simpa using h4, h5⟩
theorem Rs_append : ∀ {ds es : List D} {vs ws : List V}, Rs K F A ds vs → Rs K F A es ws → Rs K F A (ds ++ es) (vs ++ ws)
  | [], es, vs, ws, h, h' => by rw [Rs_nil] at h; subst h; exact h'
  | x :: ds, es, vs, ws, h, h' => by
    obtain ⟨w, r, rfl, h2, h3⟩ := Rs_cons.mp h
    exact Rs_cons.mpr ⟨w, r ++ ws, rfl, h2, Rs_append h3 h'⟩
theorem Rs_set : ∀ {ds : List D} {vs : List V} {i : Nat} {d : D} {v : V}, Rs K F A ds vs → R K F A d v → Rs K F A (ds.set i d) (vs.set i v)
  | [], vs, i, d, v, h, h' => by rw [Rs_nil] at h; subst h; simp [Rs_nil]
  | x :: ds, vs, 0, d, v, h, h' => by
    obtain ⟨w, r, rfl, h2, h3⟩ := Rs_cons.mp h
    exact Rs_cons.mpr ⟨v, r, rfl, h', h3⟩
  | x :: ds, vs, i + 1, d, v, h, h' => by
    obtain ⟨w, r, rfl, h2, h3⟩ := Rs_cons.mp h
    exact Rs_cons.mpr ⟨w, r.set i v, rfl, h2, Rs_set h3 h'⟩
theorem Rs_take : ∀ {ds : List D} {vs : List V} (n : Nat), Rs K F A ds vs → Rs K F A (ds.take n) (vs.take n)
  | [], vs, n, h => by rw [Rs_nil] at h; subst h; simp [Rs_nil]
  | x :: ds, vs, 0, h => by simp [Rs_nil]
  | x :: ds, vs, n + 1, h => by
    obtain ⟨w, r, rfl, h2, h3⟩ := Rs_cons.mp h
    exact Rs_cons.mpr ⟨w, r.take n, rfl, h2, Rs_take n h3⟩
theorem Rs_drop : ∀ {ds : List D} {vs : List V} (n : Nat), Rs K F A ds vs → Rs K F A (ds.drop n) (vs.drop n)
  | [], vs, n, h => by rw [Rs_nil] at h; subst h; simp [Rs_nil]
  | x :: ds, vs, 0, h => by simpa using h
  | x :: ds, vs, n + 1, h => by
    obtain ⟨w, r, rfl, h2, h3⟩ := Rs_cons.mp h
    simpa using Rs_drop n h3
theorem Rs_one {d : D} {v : V} (h : R K F A d v) : Rs K F A [d] [v] := Rs_cons.mpr ⟨v, [], rfl, h, Rs_nil.mpr rfl⟩
theorem Rs_one_inv {d : D} {vs : List V} (h : Rs K F A [d] vs) : ∃ v, vs = [v] ∧ R K F A d v := by
  obtain ⟨v, r, rfl, h1, h2⟩ := Rs_cons.mp h
  rw [Rs_nil] at h2; subst h2
  exact ⟨v, rfl, h1⟩
theorem Rs_two_inv {d e : D} {vs : List V} (h : Rs K F A [d, e] vs) : ∃ v u, vs = [v, u] ∧ R K F A d v ∧ R K F A e u := by
  obtain ⟨v, r, rfl, h1, h2⟩ := Rs_cons.mp h
  obtain ⟨u, rfl, h3⟩ := Rs_one_inv h2
  exact ⟨v, u, rfl, h1, h3⟩
/-- a value of each place, told by place -/
theorem Rs_of_get : ∀ {ds : List D} {vs : List V}, ds.length = vs.length → (∀ (i : Nat) d v, ds[i]? = some d → vs[i]? = some v → R K F A d v) → Rs K F A ds vs
  | [], vs, hl, _ => by
    have : vs = [] := by simpa using hl.symm
    subst this; exact Rs_nil.mpr rfl
  | d :: ds, [], hl, _ => by simp at hl
  | d :: ds, v :: vs, hl, h => Rs_cons.mpr ⟨v, vs, rfl, h 0 d v rfl rfl, Rs_of_get (by simpa using hl) fun i d' v' a b => h (i + 1) d' v' (by simpa using a) (by simpa using b)⟩
end

/-! ### the state -/
inductive Cell where
  | lst (xs : List D)
  | ins (c : Nat) (fs : List D)
abbrev Store := List Cell
inductive Sl where
  | un | val (d : D) | own (xs : List D) | owd (ks vs : List D) | ow2 (t : Bool) (xss : List (List D))
abbrev Env := List Sl
inductive RV where
  | val (d : D) | own (xs : List D) | owd (ks vs : List D) | ow2 (t : Bool) (xss : List (List D))
structure Exn where
  cls : Nat
  args : List D

inductive Res (α : Type) where
  | ok (a : α) (ρ : Env) (S : Store)
  | exc (x : Exn) (ρ : Env) (S : Store)
  | bad
abbrev M (α : Type) := Env → Store → Res α
def M.bind {α β : Type} (m : M α) (f : α → M β) : M β := fun ρ S =>
  match m ρ S with
  | .ok a ρ1 S1 => f a ρ1 S1
  | .exc x ρ1 S1 => .exc x ρ1 S1
  | .bad => .bad
def M.ret {α : Type} (a : α) : M α := fun ρ S => .ok a ρ S
def M.opt {α : Type} (o : Option α) : M α := fun ρ S => match o with
  | some a => .ok a ρ S
  | none => .bad

/-- what a def does: data in, data out -/
inductive FR where
  | ok (r : RV) (S : Store)
  | exc (x : Exn) (S : Store)
  | bad
abbrev MF := List D → Store → FR

/-- ghosts: the frozen part, the cells' addresses, the heap, what each slot owns -/
structure Gs where
  F : Hp
  A : List Addr
  H : Hp
  P : Nat → List Addr

/-- the context of a body: what is static of it, and the entry -/
structure Ctx where
  prog : Program
  w : World
  K : PySem.W.Frag
  mg : Str → Option Value
  base : Heap
  N : List Str
  sc : Scope
  fb : Str → Bool
  k : Nat
  F0 : Hp
  A0 : List Addr
  H0 : Hp
  W : WX
  XR : Exn → Value → Option Addr → Hp → List Addr → Hp → Prop

structure Go (F : Hp) (A : List Addr) (H F' : Hp) (A' : List Addr) (H' : Hp) : Prop where
  le : Le F A F' A'
  keep : ∀ a o, H a = some o → a ∉ A → H' a = some o
  fresh : ∀ a o, H a = some o → F a = none → F' a = none
  newA : ∀ a, a ∈ A' → a ∈ A ∨ H a = none
  track : ∀ a o, H a = some o → ∃ o', H' a = some o'
theorem Go.refl {F : Hp} {A : List Addr} {H : Hp} : Go F A H F A H := ⟨Le.refl F A, fun _ _ h _ => h, fun _ _ _ h => h, fun _ h => .inl h, fun _ o h => ⟨o, h⟩⟩
theorem Go.trans {F : Hp} {A : List Addr} {H F1 : Hp} {A1 : List Addr} {H1 F2 : Hp} {A2 : List Addr} {H2 : Hp} (x : Go F A H F1 A1 H1) (y : Go F1 A1 H1 F2 A2 H2) : Go F A H F2 A2 H2 := by
  refine ⟨x.le.trans y.le, fun a o h n => ?_, fun a o h n => ?_, fun a h => ?_, fun a o h => ?_⟩
  · refine y.keep a o (x.keep a o h n) fun m => ?_
    rcases x.newA a m with q | q
    · exact n q
    · rw [h] at q; cases q
  · obtain ⟨o', h'⟩ := x.track a o h
    exact y.fresh a o' h' (x.fresh a o h n)
  · rcases y.newA a h with q | q
    · exact x.newA a q
    · right
      cases e : H a with
      | none => rfl
      | some o =>
        obtain ⟨o', h'⟩ := x.track a o e
        rw [h'] at q; cases q
  · obtain ⟨o', h'⟩ := x.track a o h
    exact y.track a o' h'

def CellR (K : PySem.W.Frag) (F : Hp) (A : List Addr) (H : Hp) (a : Addr) : Cell → Prop
  | .lst xs => ∃ vs, H a = some (.lst vs) ∧ Rs K F A xs vs
  | .ins _ _ => False

/-- the store is there -/
structure Wd (K : PySem.W.Frag) (F : Hp) (A : List Addr) (H : Hp) (S : Store) : Prop where
  sub : Ex F H
  len : A.length = S.length
  nd : A.Nodup
  fr : ∀ a, a ∈ A → F a = none
  cel : ∀ (n : Nat) c a, S[n]? = some c → A[n]? = some a → CellR K F A H a c

def Priv (C : Ctx) (F : Hp) (A : List Addr) (a : Addr) : Prop := F a = none ∧ a ∉ A ∧ C.H0 a = none

def Inner (K : PySem.W.Frag) (F : Hp) (A : List Addr) (H : Hp) : List Addr → List (List D) → Prop
  | [], xss => xss = []
  | a :: as, xss => ∃ xs r, xss = xs :: r ∧ (∃ vs, H a = some (.lst vs) ∧ Rs K F A xs vs) ∧ Inner K F A H as r

def SlR (C : Ctx) (F : Hp) (A : List Addr) (H : Hp) : Sl → Option V → List Addr → Prop
  | .un, _, p => p = []
  | .val d, o, p => p = [] ∧ ∃ v, o = some v ∧ R C.K F A d v
  | .own xs, o, p => ∃ a vs, p = [a] ∧ o = some (.ref a) ∧ H a = some (.lst vs) ∧ Rs C.K F A xs vs
  | .owd ks ds, o, p => ∃ a kvs, p = [a] ∧ o = some (.ref a) ∧ H a = some (.dK kvs) ∧ ks.map keyD = kvs.map (fun p => some p.1) ∧ Rs C.K F A ds (kvs.map (·.2))
  | .ow2 t xss, o, p => ∃ a as, p = a :: as ∧ (a :: as).Nodup ∧ o = some (.ref a) ∧ H a = some (if t then .tup (as.map V.ref) else .lst (as.map V.ref)) ∧ Inner C.K F A H as xss

structure Stt (C : Ctx) (ρ : Env) (S : Store) (σ : L2.St) (g : Gs) : Prop where
  go : Go C.F0 C.A0 C.H0 g.F g.A g.H
  wd : Wd C.K g.F g.A g.H S
  len : ρ.length = σ.length
  at_ : ∀ (i : Nat) sl, ρ[i]? = some sl → SlR C g.F g.A g.H sl ((σ[i]?).getD none) (g.P i)
  pr : ∀ (i : Nat) a, a ∈ g.P i → Priv C g.F g.A a
  dis : ∀ (i j : Nat) a, a ∈ g.P i → a ∈ g.P j → i = j
  out : ∀ (i : Nat), ρ.length ≤ i → g.P i = []

/-- nobody's own object: it waits for a slot -/
def Free (C : Ctx) (g : Gs) (a : Addr) : Prop := Priv C g.F g.A a ∧ ∀ i, a ∉ g.P i
structure GLe (C : Ctx) (g g' : Gs) : Prop where
  le : Le g.F g.A g'.F g'.A
  track : ∀ a o, g.H a = some o → ∃ o', g'.H a = some o'
  kp : ∀ a o, Free C g a → g.H a = some o → g'.H a = some o ∧ Free C g' a
theorem GLe.refl (C : Ctx) (g : Gs) : GLe C g g := ⟨Le.refl _ _, fun _ o h => ⟨o, h⟩, fun _ _ f h => ⟨h, f⟩⟩
theorem GLe.trans {C : Ctx} {g g' g'' : Gs} (x : GLe C g g') (y : GLe C g' g'') : GLe C g g'' := ⟨x.le.trans y.le, fun a o h => by
  obtain ⟨o', h'⟩ := x.track a o h
  exact y.track a o' h', fun a o f h => by
  obtain ⟨h', f'⟩ := x.kp a o f h
  exact y.kp a o f' h'⟩
theorem GLe.new {C : Ctx} {g g' : Gs} (x : GLe C g g') {a : Addr} (h : g'.H a = none) : g.H a = none := by
  cases e : g.H a with
  | none => rfl
  | some o => obtain ⟨o', q⟩ := x.track a o e; rw [h] at q; cases q

/-- what is wanted behind an expression's mirror -/
def PostG {α β : Type} (C : Ctx) (g : Gs) (σ : L2.St) (Rel : Gs → Gs → α → β → Prop) (o : Res α) (Q : β → Hp → Prop) : Prop :=
  match o with
  | .ok d ρ' S' => ∀ v g', Stt C ρ' S' σ g' → GLe C g g' → Rel g g' d v → Q v g'.H
  | .exc x ρ' S' => ∀ cls dd g', Stt C ρ' S' σ g' → C.XR x cls dd g'.F g'.A g'.H → C.W cls dd σ g'.H
  | .bad => False
def RVR (C : Ctx) (g0 g : Gs) : RV → V → Prop
  | .val d, v => R C.K g.F g.A d v
  | .own xs, v => ∃ p, (∀ a, a ∈ p → Free C g a ∧ g0.H a = none) ∧ SlR C g.F g.A g.H (.own xs) (some v) p
  | .owd ks ds, v => ∃ p, (∀ a, a ∈ p → Free C g a ∧ g0.H a = none) ∧ SlR C g.F g.A g.H (.owd ks ds) (some v) p
  | .ow2 t xss, v => ∃ p, (∀ a, a ∈ p → Free C g a ∧ g0.H a = none) ∧ SlR C g.F g.A g.H (.ow2 t xss) (some v) p
theorem rvr_mono {C : Ctx} : ∀ g g1 g' (r : RV) (v : V), GLe C g g1 → RVR C g1 g' r v → RVR C g g' r v := fun g g1 g' r v le h => by
  cases r with
  | val d => exact h
  | own xs => obtain ⟨p, h1, h2⟩ := h; exact ⟨p, fun a ha => ⟨(h1 a ha).1, le.new (h1 a ha).2⟩, h2⟩
  | owd ks ds => obtain ⟨p, h1, h2⟩ := h; exact ⟨p, fun a ha => ⟨(h1 a ha).1, le.new (h1 a ha).2⟩, h2⟩
  | ow2 t xss => obtain ⟨p, h1, h2⟩ := h; exact ⟨p, fun a ha => ⟨(h1 a ha).1, le.new (h1 a ha).2⟩, h2⟩

theorem postG_bind {α β γ δ : Type} {C : Ctx} {g : Gs} {σ : L2.St} {ρ : Env} {S : Store} {Rel : Gs → Gs → α → β → Prop} {Rel' : Gs → Gs → γ → δ → Prop} {m : M α} {f : α → M γ} {Q : δ → Hp → Prop} {Qa : β → Hp → Prop}
    (h : PostG C g σ Rel' ((m.bind f) ρ S) Q)
    (k : ∀ a ρ1 S1 v g1, m ρ S = .ok a ρ1 S1 → Stt C ρ1 S1 σ g1 → GLe C g g1 → Rel g g1 a v → PostG C g1 σ Rel' (f a ρ1 S1) Q → Qa v g1.H)
    (mono : ∀ g g1 g' c d, GLe C g g1 → Rel' g1 g' c d → Rel' g g' c d := by first | exact fun _ _ _ _ _ _ h => h | exact rvr_mono | assumption) : PostG C g σ Rel (m ρ S) Qa := by
  unfold M.bind at h
  cases e : m ρ S with
  | ok a ρ1 S1 =>
    rw [e] at h
    intro v g1 st le r
    refine k a ρ1 S1 v g1 e st le r ?_
    revert h
    show PostG C g σ Rel' (f a ρ1 S1) Q → PostG C g1 σ Rel' (f a ρ1 S1) Q
    generalize f a ρ1 S1 = o
    cases o with
    | ok b ρ2 S2 => exact fun h v' g' st' le' r' => h v' g' st' (le.trans le') (mono _ _ _ _ _ le r')
    | exc x ρ2 S2 => exact fun h => h
    | bad => exact fun h => h
  | exc x ρ1 S1 =>
    rw [e] at h
    exact h
  | bad =>
    rw [e] at h
    exact h.elim

/-- the contexts of a body -/
structure Lc (C : Ctx) (X : Cx) : Prop where
  prog : X.prog = C.prog
  w : X.w = C.w
  K : X.K = C.K
  mg : X.mg = C.mg
  base : X.base = C.base
  N : X.N = C.N
  sc : X.env.scope = C.sc
  nd : C.N.Nodup
  calm : X.calm = true
  room : Room C.k X.A
  fn : ∀ x, C.fb x = true → X.fn x = true
  po : PassesOwn (model X.prog X.w) X.A X.env X.xe

/-- a name that may be stored to -/
def Sto (C : Ctx) (x : Str) : Prop := C.sc.names.lookup x = some .local ∨ (C.sc.names.lookup x = some .cell ∧ C.fb x = true)
theorem Sto.loc {C : Ctx} {x : Str} (h : Sto C x) : Loc C.sc x := h.elim .inl fun h => .inr h.1
theorem Sto.fn {C : Ctx} {X : Cx} {x : Str} (L : Lc C X) (h : Sto C x) : X.fn x = true ∨ C.sc.names.lookup x = some .local := h.elim .inr fun h => .inl (L.fn x h.2)
def DE (C : Ctx) (e : Expr) (m : M D) : Prop :=
  ∃ t, (∀ X, Lc C X → PE X e t) ∧ ∀ ρ S σ g Q, Stt C ρ S σ g → PostG C g σ (fun _ g d v => R C.K g.F g.A d v) (m ρ S) Q → t σ g.H Q
def DA (C : Ctx) (es : List Expr) (m : M (List D)) : Prop :=
  ∃ t, (∀ X, Lc C X → PA X es t) ∧ ∀ ρ S σ g Q, Stt C ρ S σ g → PostG C g σ (fun _ g d v => Rs C.K g.F g.A d v) (m ρ S) Q → t σ g.H Q
def DT (C : Ctx) (e : Expr) (m : M Bool) : Prop :=
  ∃ t, (∀ X, Lc C X → PT X e t) ∧ ∀ ρ S σ g Q, Stt C ρ S σ g → PostG C g σ (fun _ _ b v => v = b) (m ρ S) Q → t σ g.H Q
/-- an expression whose value may be a list of one's own -/
def DO (C : Ctx) (e : Expr) (m : M RV) : Prop :=
  ∃ t, (∀ X, Lc C X → PE X e t) ∧ ∀ ρ S σ g Q, Stt C ρ S σ g → PostG C g σ (RVR C) (m ρ S) Q → t σ g.H Q
end Thr
namespace Thr
open PySem PySem.Spec PyProof.Rows L2

section
variable {K : PySem.W.Frag} {F F' : Hp} {A A' : List Addr} {H H' : Hp} {S : Store} {p : Addr} {o : HO}
theorem Ex.none {F H : Hp} (e : Ex F H) {p : Addr} (h : H p = none) : F p = none := by
  cases q : F p with
  | none => rfl
  | some u => rw [e p u q] at h; cases h
theorem Inner_mono (e : Le F A F' A') : ∀ (as : List Addr) (xss : List (List D)), (∀ a, a ∈ as → ∀ u, H a = some u → H' a = some u) → Inner K F A H as xss → Inner K F' A' H' as xss
  | [], xss, _, h => by unfold Inner at h ⊢; exact h
  | a :: as, xss, k, h => by
    unfold Inner at h ⊢
    obtain ⟨xs, r, h1, ⟨vs, h2, h3⟩, h4⟩ := h
    exact ⟨xs, r, h1, ⟨vs, k a (by simp) _ h2, Rs_mono e _ _ h3⟩, Inner_mono e as r (fun b hb => k b (by simp [hb])) h4⟩
theorem Inner_there : ∀ (as : List Addr) (xss : List (List D)), Inner K F A H as xss → ∀ a, a ∈ as → ∃ u, H a = some u
  | [], xss, _, a, ha => by simp at ha
  | b :: as, xss, h, a, ha => by
    unfold Inner at h
    obtain ⟨xs, r, h1, ⟨vs, h2, h3⟩, h4⟩ := h
    rcases List.mem_cons.mp ha with e | e
    · subst e; exact ⟨_, h2⟩
    · exact Inner_there as r h4 a e
theorem CellR_mono (e : Le F A F' A') {a : Addr} (k : ∀ u, H a = some u → H' a = some u) : ∀ {c : Cell}, CellR K F A H a c → CellR K F' A' H' a c
  | .lst xs, h => by
    unfold CellR at h ⊢
    obtain ⟨vs, h1, h2⟩ := h
    exact ⟨vs, k _ h1, Rs_mono e _ _ h2⟩
  | .ins _ _, h => by unfold CellR at h; exact h.elim
theorem CellR_there {a : Addr} : ∀ {c : Cell}, CellR K F A H a c → ∃ u, H a = some u
  | .lst xs, h => by unfold CellR at h; obtain ⟨vs, h1, h2⟩ := h; exact ⟨_, h1⟩
  | .ins _ _, h => by unfold CellR at h; exact h.elim
theorem Wd.there (W : Wd K F A H S) {a : Addr} (h : a ∈ A) : ∃ u, H a = some u := by
  obtain ⟨n, hn⟩ := List.mem_iff_getElem?.mp h
  have hl : n < S.length := by rw [← W.len]; exact (List.getElem?_eq_some_iff.mp hn).1
  exact CellR_there (W.cel n _ a (List.getElem?_eq_getElem hl) hn)
/-- a new frozen object -/
theorem Go.grow (s : Ex F H) (h : H p = none) : Go F A H (upd F p o) A (upd H p o) := by
  have ne : ∀ a u, H a = some u → a ≠ p := fun a u e => ne_of_none e h
  refine ⟨⟨Ex.new (s.none h), fun _ _ q => q⟩, fun a u e _ => by rw [upd_ne (ne a u e)]; exact e, fun a u e n => by rw [upd_ne (ne a u e)]; exact n, fun a q => .inl q, fun a u e => ⟨u, by rw [upd_ne (ne a u e)]; exact e⟩⟩
/-- a new object that stays one's own -/
theorem Go.priv (h : H p = none) : Go F A H F A (upd H p o) := by
  have ne : ∀ a u, H a = some u → a ≠ p := fun a u e => ne_of_none e h
  exact ⟨Le.refl F A, fun a u e _ => by rw [upd_ne (ne a u e)]; exact e, fun _ _ _ n => n, fun a q => .inl q, fun a u e => ⟨u, by rw [upd_ne (ne a u e)]; exact e⟩⟩
theorem Wd.grow (W : Wd K F A H S) (h : H p = none) : Wd K (upd F p o) A (upd H p o) S := by
  have ne : ∀ a, a ∈ A → a ≠ p := fun a ha => by
    obtain ⟨u, e⟩ := W.there ha
    exact ne_of_none e h
  refine ⟨fun a u e => ?_, W.len, W.nd, fun a ha => by rw [upd_ne (ne a ha)]; exact W.fr a ha, fun n c a hc ha => ?_⟩
  · by_cases q : a = p
    · subst q; rw [upd_same] at e ⊢; exact e
    · rw [upd_ne q] at e ⊢; exact W.sub a u e
  · have hm : a ∈ A := List.mem_of_getElem? ha
    exact CellR_mono ⟨Ex.new (W.sub.none h), fun _ _ q => q⟩ (fun u e => by rw [upd_ne (ne a hm)]; exact e) (W.cel n c a hc ha)
theorem Wd.priv (W : Wd K F A H S) (h : H p = none) : Wd K F A (upd H p o) S := by
  have ne : ∀ a, a ∈ A → a ≠ p := fun a ha => by
    obtain ⟨u, e⟩ := W.there ha
    exact ne_of_none e h
  refine ⟨fun a u e => ?_, W.len, W.nd, W.fr, fun n c a hc ha => ?_⟩
  · have q : a ≠ p := ne_of_none (W.sub a u e) h
    rw [upd_ne q]; exact W.sub a u e
  · have hm : a ∈ A := List.mem_of_getElem? ha
    exact CellR_mono (Le.refl _ _) (fun u e => by rw [upd_ne (ne a hm)]; exact e) (W.cel n c a hc ha)
end

section
variable {C : Ctx} {F F' : Hp} {A A' : List Addr} {H H' : Hp}
theorem SlR_mono (e : Le F A F' A') {sl : Sl} {v : Option V} {p : List Addr} (k : ∀ a, a ∈ p → ∀ u, H a = some u → H' a = some u) (h : SlR C F A H sl v p) : SlR C F' A' H' sl v p := by
  cases sl with
  | un => exact h
  | val d =>
    obtain ⟨h1, w, h2, h3⟩ := h
    exact ⟨h1, w, h2, R_mono e _ _ h3⟩
  | own xs =>
    obtain ⟨a, vs, h1, h2, h3, h4⟩ := h
    exact ⟨a, vs, h1, h2, k a (by rw [h1]; simp) _ h3, Rs_mono e _ _ h4⟩
  | owd ks ds =>
    obtain ⟨a, vs, h1, h2, h3, h4, h5⟩ := h
    exact ⟨a, vs, h1, h2, k a (by rw [h1]; simp) _ h3, h4, Rs_mono e _ _ h5⟩
  | ow2 t xss =>
    obtain ⟨a, as, h1, h2, h3, h4, h5⟩ := h
    exact ⟨a, as, h1, h2, h3, k a (by rw [h1]; simp) _ h4, Inner_mono e _ _ (fun b hb => k b (by rw [h1]; simp [hb])) h5⟩
theorem SlR_there {sl : Sl} {v : Option V} {p : List Addr} (h : SlR C F A H sl v p) {a : Addr} (ha : a ∈ p) : ∃ u, H a = some u := by
  cases sl with
  | un =>
    have h' : p = [] := h
    rw [h'] at ha; simp at ha
  | val d =>
    rw [h.1] at ha; simp at ha
  | own xs =>
    obtain ⟨b, vs, h1, h2, h3, h4⟩ := h
    rw [h1] at ha; simp at ha; subst ha; exact ⟨_, h3⟩
  | owd ks ds =>
    obtain ⟨b, vs, h1, h2, h3, h4, h5⟩ := h
    rw [h1] at ha; simp at ha; subst ha; exact ⟨_, h3⟩
  | ow2 t xss =>
    obtain ⟨b, as, h1, h2, h3, h4, h5⟩ := h
    rw [h1] at ha
    rcases List.mem_cons.mp ha with e | e
    · subst e; exact ⟨_, h4⟩
    · exact Inner_there _ _ h5 a e
end

section
variable {C : Ctx} {ρ : Env} {S S' : Store} {σ : L2.St} {g : Gs}
theorem Stt.there (st : Stt C ρ S σ g) {i : Nat} {a : Addr} (h : a ∈ g.P i) : ∃ u, g.H a = some u := by
  by_cases hi : i < ρ.length
  · exact SlR_there (st.at_ i _ (List.getElem?_eq_getElem hi)) h
  · rw [st.out i (Nat.le_of_not_lt hi)] at h; simp at h
/-- behind what leaves one's own as it is -/
theorem Stt.step (st : Stt C ρ S σ g) {F' : Hp} {A' : List Addr} {H' : Hp} (G : Go g.F g.A g.H F' A' H') (W : Wd C.K F' A' H' S') : Stt C ρ S' σ ⟨F', A', H', g.P⟩ := by
  refine ⟨st.go.trans G, W, st.len, fun i sl e => ?_, fun i a h => ?_, st.dis, st.out⟩
  · refine SlR_mono G.le (fun a ha u q => G.keep a u q (st.pr i a ha).2.1) (st.at_ i sl e)
  · obtain ⟨u, q⟩ := st.there h
    obtain ⟨p1, p2, p3⟩ := st.pr i a h
    refine ⟨G.fresh a u q p1, fun m => ?_, p3⟩
    rcases G.newA a m with z | z
    · exact p2 z
    · rw [q] at z; cases z
def Gs.up (g : Gs) (p : Addr) (o : HO) : Gs := ⟨upd g.F p o, g.A, upd g.H p o, g.P⟩
def Gs.pv (g : Gs) (p : Addr) (o : HO) : Gs := ⟨g.F, g.A, upd g.H p o, g.P⟩
theorem Stt.grow (st : Stt C ρ S σ g) {p : Addr} {o : HO} (h : g.H p = none) : Stt C ρ S σ (g.up p o) := st.step (Go.grow st.wd.sub h) (st.wd.grow h)
theorem GLe.go {F' : Hp} {A' : List Addr} {H' : Hp} (G : Go g.F g.A g.H F' A' H') : GLe C g ⟨F', A', H', g.P⟩ :=
  ⟨G.le, G.track, fun a o f h => ⟨G.keep a o h f.1.2.1, ⟨G.fresh a o h f.1.1, (fun m => (G.newA a m).elim (fun z => f.1.2.1 z) fun z => by rw [h] at z; cases z), f.1.2.2⟩, f.2⟩⟩
theorem Stt.le_up (st : Stt C ρ S σ g) {p : Addr} {o : HO} (h : g.H p = none) : GLe C g (g.up p o) := GLe.go (Go.grow st.wd.sub h)
theorem Stt.priv (st : Stt C ρ S σ g) {p : Addr} {o : HO} (h : g.H p = none) : Stt C ρ S σ (g.pv p o) := st.step (Go.priv h) (st.wd.priv h)
theorem Stt.le_pv {p : Addr} {o : HO} (h : g.H p = none) : GLe C g (g.pv p o) := GLe.go (Go.priv h)
/-- a new own object is nobody's -/
theorem Stt.free (st : Stt C ρ S σ g) {p : Addr} {o : HO} (h : g.H p = none) : Free C (g.pv p o) p := by
  refine ⟨⟨st.wd.sub.none h, fun m => ?_, ?_⟩, fun i m => ?_⟩
  · obtain ⟨u, q⟩ := st.wd.there m
    rw [h] at q; cases q
  · cases e : C.H0 p with
    | none => rfl
    | some u =>
      obtain ⟨o', q⟩ := st.go.track p u e
      rw [h] at q; cases q
  · obtain ⟨u, q⟩ := st.there m
    rw [h] at q; cases q
/-- one's own list is frozen -/
theorem Stt.freeze (st : Stt C ρ S σ g) {a : Addr} {o : HO} (h : g.H a = some o) (pr : Priv C g.F g.A a) (no : ∀ i, a ∉ g.P i) : Stt C ρ S σ ⟨upd g.F a o, g.A, g.H, g.P⟩ ∧ Le g.F g.A (upd g.F a o) g.A := by
  have le : Le g.F g.A (upd g.F a o) g.A := ⟨Ex.new pr.1, fun _ _ q => q⟩
  refine ⟨⟨⟨st.go.le.trans le, st.go.keep, fun b u q n => ?_, st.go.newA, st.go.track⟩, ⟨fun b u q => ?_, st.wd.len, st.wd.nd, fun b hb => ?_, fun n c b hc hb => ?_⟩, st.len, fun i sl e => SlR_mono le (fun _ _ _ q => q) (st.at_ i sl e), fun i b hb => ?_, st.dis, st.out⟩, le⟩
  · have hb : b ≠ a := fun z => by subst z; rw [pr.2.2] at q; cases q
    show upd g.F a o b = none
    rw [upd_ne hb]; exact st.go.fresh b u q n
  · by_cases hb : b = a
    · subst hb
      have q' : upd g.F b o b = some u := q
      rw [upd_same] at q'; cases q'; exact h
    · have q' : upd g.F a o b = some u := q
      rw [upd_ne hb] at q'; exact st.wd.sub b u q'
  · have hb' : b ≠ a := fun z => by subst z; exact pr.2.1 hb
    show upd g.F a o b = none
    rw [upd_ne hb']; exact st.wd.fr b hb
  · exact CellR_mono le (fun _ q => q) (st.wd.cel n c b hc hb)
  · obtain ⟨p1, p2, p3⟩ := st.pr i b hb
    have hb' : b ≠ a := fun z => by subst z; exact no i hb
    refine ⟨?_, p2, p3⟩
    show upd g.F a o b = none
    rw [upd_ne hb']; exact p1
/-- slot i changes: its value, what it owns -/
theorem Stt.put (st : Stt C ρ S σ g) {i : Nat} {sl : Sl} {v : V} {p : List Addr} (hi : i < ρ.length) (h : SlR C g.F g.A g.H sl (some v) p) (pr : ∀ a, a ∈ p → Priv C g.F g.A a ∧ ∀ j, j ≠ i → a ∉ g.P j) :
    Stt C (ρ.set i sl) S (σ.set i (some v)) ⟨g.F, g.A, g.H, fun j => if j = i then p else g.P j⟩ := by
  refine ⟨st.go, st.wd, by simpa using st.len, fun j sl' e => ?_, fun j a ha => ?_, fun j j' a ha hb => ?_, fun j hj => ?_⟩
  · by_cases hj : j = i
    · subst hj
      rw [List.getElem?_set_self hi] at e
      cases e
      have hσ : j < σ.length := by rw [← st.len]; exact hi
      rw [List.getElem?_set_self hσ]
      show SlR C g.F g.A g.H sl (some v) (if j = j then p else g.P j)
      rw [if_pos rfl]; exact h
    · rw [List.getElem?_set_ne (Ne.symm hj)] at e
      rw [List.getElem?_set_ne (Ne.symm hj)]
      show SlR C g.F g.A g.H sl' _ (if j = i then p else g.P j)
      rw [if_neg hj]; exact st.at_ j sl' e
  · have ha' : a ∈ (if j = i then p else g.P j) := ha
    by_cases hj : j = i
    · rw [if_pos hj] at ha'; exact (pr a ha').1
    · rw [if_neg hj] at ha'; exact st.pr j a ha'
  · have ha' : a ∈ (if j = i then p else g.P j) := ha
    have hb' : a ∈ (if j' = i then p else g.P j') := hb
    by_cases hj : j = i
    · by_cases hj' : j' = i
      · rw [hj, hj']
      · rw [if_pos hj] at ha'; rw [if_neg hj'] at hb'
        exact absurd hb' ((pr a ha').2 j' hj')
    · rw [if_neg hj] at ha'
      by_cases hj' : j' = i
      · rw [if_pos hj'] at hb'
        exact absurd ha' ((pr a hb').2 j hj)
      · rw [if_neg hj'] at hb'
        exact st.dis j j' a ha' hb'
  · have hj' : ρ.length ≤ j := by simpa using hj
    have hne : j ≠ i := fun z => by subst z; exact absurd hi (Nat.not_lt.mpr hj')
    show (if j = i then p else g.P j) = []
    rw [if_neg hne]; exact st.out j hj'
/-- slots forgotten: ρ' knows no more than ρ -/
theorem Stt.forget (st : Stt C ρ S σ g) (i : Nat) : Stt C (ρ.set i .un) S σ ⟨g.F, g.A, g.H, fun j => if j = i then [] else g.P j⟩ := by
  refine ⟨st.go, st.wd, by simpa using st.len, fun j sl' e => ?_, fun j a ha => ?_, fun j j' a ha hb => ?_, fun j hj => ?_⟩
  · by_cases hj : j = i
    · subst hj
      by_cases hi : j < ρ.length
      · rw [List.getElem?_set_self hi] at e
        cases e
        show (if j = j then [] else g.P j) = []
        rw [if_pos rfl]
      · rw [List.getElem?_eq_none (by simpa using hi)] at e; cases e
    · rw [List.getElem?_set_ne (Ne.symm hj)] at e
      show SlR C g.F g.A g.H sl' _ (if j = i then [] else g.P j)
      rw [if_neg hj]; exact st.at_ j sl' e
  · have ha' : a ∈ (if j = i then [] else g.P j) := ha
    by_cases hj : j = i
    · rw [if_pos hj] at ha'; simp at ha'
    · rw [if_neg hj] at ha'; exact st.pr j a ha'
  · have ha' : a ∈ (if j = i then [] else g.P j) := ha
    have hb' : a ∈ (if j' = i then [] else g.P j') := hb
    by_cases hj : j = i
    · rw [if_pos hj] at ha'; simp at ha'
    · by_cases hj' : j' = i
      · rw [if_pos hj'] at hb'; simp at hb'
      · rw [if_neg hj] at ha'; rw [if_neg hj'] at hb'
        exact st.dis j j' a ha' hb'
  · have hj' : ρ.length ≤ j := by simpa using hj
    show (if j = i then [] else g.P j) = []
    by_cases h : j = i
    · rw [if_pos h]
    · rw [if_neg h]; exact st.out j hj'
end
end Thr
namespace Thr
open PySem PySem.Spec PyProof.Rows L2

/-! ### freezing -/
def RV.toD : RV → D
  | .val d => d
  | .own xs => .lst xs
  | .owd ks vs => .dic ks vs
  | .ow2 t xss => if t then .tup (xss.map .lst) else .lst (xss.map .lst)
def RV.toSl : RV → Sl
  | .val d => .val d
  | .own xs => .own xs
  | .owd ks vs => .owd ks vs
  | .ow2 t xss => .ow2 t xss
section
variable {C : Ctx} {ρ : Env} {S S' : Store} {σ : L2.St} {g : Gs}
theorem freeze_inner : ∀ (as : List Addr) (xss : List (List D)) {F : Hp}, Stt C ρ S σ ⟨F, g.A, g.H, g.P⟩ → as.Nodup → (∀ a, a ∈ as → Priv C F g.A a ∧ ∀ i, a ∉ g.P i) → Inner C.K F g.A g.H as xss →
    ∃ F', Stt C ρ S σ ⟨F', g.A, g.H, g.P⟩ ∧ Le F g.A F' g.A ∧ Rs C.K F' g.A (xss.map .lst) (as.map V.ref) ∧ ∀ b, b ∉ as → F' b = F b
  | [], xss, F, st, nd, pr, h => by
    unfold Inner at h
    subst h
    exact ⟨F, st, Le.refl _ _, Rs_nil.mpr rfl, fun _ _ => rfl⟩
  | a :: as, xss, F, st, nd, pr, h => by
    unfold Inner at h
    obtain ⟨xs, r, rfl, ⟨vs, h2, h3⟩, h4⟩ := h
    obtain ⟨st1, le1⟩ := st.freeze h2 (pr a (by simp)).1 (pr a (by simp)).2
    have nd' := List.nodup_cons.mp nd
    have hpr : ∀ b, b ∈ as → Priv C (upd F a (.lst vs)) g.A b ∧ ∀ i, b ∉ g.P i := fun b hb => by
      obtain ⟨⟨p1, p2, p3⟩, p4⟩ := pr b (by simp [hb])
      have hne : b ≠ a := fun z => by subst z; exact nd'.1 hb
      exact ⟨⟨by rw [upd_ne hne]; exact p1, p2, p3⟩, p4⟩
    obtain ⟨F', st2, le2, rs2, out2⟩ := freeze_inner as r st1 nd'.2 hpr (Inner_mono le1 as r (fun _ _ _ q => q) h4)
    refine ⟨F', st2, Le.trans le1 le2, ?_, fun b hb => ?_⟩
    · refine Rs_cons.mpr ⟨V.ref a, as.map V.ref, rfl, R_lst.mpr ⟨a, vs, rfl, ?_, ?_⟩, rs2⟩
      · exact le2.ex a _ (upd_same)
      · exact Rs_mono (Le.trans le1 le2) _ _ h3
    · have hb1 : b ≠ a := fun z => hb (by simp [z])
      have hb2 : b ∉ as := fun z => hb (by simp [z])
      rw [out2 b hb2, upd_ne hb1]
/-- a value of one's own is frozen, whatever it is -/
theorem sl_freeze (st : Stt C ρ S σ g) {rv : RV} {v : V} {p : List Addr} (pr : ∀ a, a ∈ p → Free C g a) (h : SlR C g.F g.A g.H rv.toSl (some v) p) :
    ∃ F', Stt C ρ S σ ⟨F', g.A, g.H, g.P⟩ ∧ Le g.F g.A F' g.A ∧ R C.K F' g.A rv.toD v ∧ ∀ a, a ∉ p → F' a = g.F a := by
  cases rv with
  | val d =>
    obtain ⟨_, w, h1, h2⟩ := h
    cases h1
    exact ⟨g.F, st, Le.refl _ _, h2, fun _ _ => rfl⟩
  | own xs =>
    obtain ⟨a, vs, rfl, h2, h3, h4⟩ := h
    cases h2
    obtain ⟨st1, le1⟩ := st.freeze h3 (pr a (by simp)).1 (pr a (by simp)).2
    exact ⟨_, st1, le1, R_lst.mpr ⟨a, vs, rfl, upd_same, Rs_mono le1 _ _ h4⟩, fun b hb => upd_ne (by simpa using hb)⟩
  | owd ks ds =>
    obtain ⟨a, vs, rfl, h2, h3, h4, h5⟩ := h
    cases h2
    obtain ⟨st1, le1⟩ := st.freeze h3 (pr a (by simp)).1 (pr a (by simp)).2
    exact ⟨_, st1, le1, R_dic.mpr ⟨a, vs, rfl, upd_same, h4, Rs_mono le1 _ _ h5⟩, fun b hb => upd_ne (by simpa using hb)⟩
  | ow2 t xss =>
    obtain ⟨a, as, rfl, nd, h2, h4, h5⟩ := h
    cases h2
    have nd' := List.nodup_cons.mp nd
    obtain ⟨F', st1, le1, rs, out⟩ := freeze_inner (g := g) as xss st nd'.2 (fun b hb => pr b (by simp [hb])) h5
    have hp := pr a (by simp)
    have hpr : Priv C F' g.A a := ⟨by rw [out a nd'.1]; exact hp.1.1, hp.1.2.1, hp.1.2.2⟩
    obtain ⟨st2, le2⟩ := st1.freeze h4 hpr hp.2
    refine ⟨_, st2, Le.trans le1 le2, ?_, fun b hb => ?_⟩
    · have rs' := Rs_mono le2 _ _ rs
      cases t with
      | true => exact R_tup.mpr ⟨a, _, rfl, SqT.of upd_same, rs'⟩
      | false => exact R_lst.mpr ⟨a, _, rfl, upd_same, rs'⟩
    · have hb1 : b ≠ a := fun z => hb (by simp [z])
      have hb2 : b ∉ as := fun z => hb (by simp [z])
      show upd F' a _ b = g.F b
      rw [upd_ne hb1, out b hb2]
theorem rvr_sl {g0 : Gs} {rv : RV} {v : V} (h : RVR C g0 g rv v) : ∃ p, (∀ a, a ∈ p → Free C g a ∧ g0.H a = none) ∧ SlR C g.F g.A g.H rv.toSl (some v) p := by
  cases rv with
  | val d => exact ⟨[], fun a ha => by simp at ha, rfl, v, rfl, h⟩
  | own xs => exact h
  | owd ks ds => exact h
  | ow2 t xss => exact h
theorem sl_rvr {g0 : Gs} {rv : RV} {v : V} {p : List Addr} (pr : ∀ a, a ∈ p → Free C g a ∧ g0.H a = none) (h : SlR C g.F g.A g.H rv.toSl (some v) p) : RVR C g0 g rv v := by
  cases rv with
  | val d => obtain ⟨_, w, h1, h2⟩ := h; cases h1; exact h2
  | own xs => exact ⟨p, pr, h⟩
  | owd ks ds => exact ⟨p, pr, h⟩
  | ow2 t xss => exact ⟨p, pr, h⟩
theorem rv_freeze {g0 : Gs} (st : Stt C ρ S σ g) {rv : RV} {v : V} (le : GLe C g0 g) (h : RVR C g0 g rv v) : ∃ g', Stt C ρ S σ g' ∧ GLe C g0 g' ∧ g'.H = g.H ∧ R C.K g'.F g'.A rv.toD v := by
  obtain ⟨p, pr, q⟩ := rvr_sl h
  obtain ⟨F', a, b, c, d⟩ := sl_freeze st (fun x hx => (pr x hx).1) q
  refine ⟨_, a, ⟨le.le.trans b, le.track, fun x o f hx => ?_⟩, rfl, c⟩
  obtain ⟨h1, h2⟩ := le.kp x o f hx
  have hp : x ∉ p := fun m => by
    have := (pr x m).2
    rw [hx] at this; cases this
  exact ⟨h1, ⟨(d x hp).trans h2.1.1, h2.1.2.1, h2.1.2.2⟩, h2.2⟩
theorem List.set_self {α : Type} : ∀ (l : List α) (i : Nat) (a : α), l[i]? = some a → l.set i a = l
  | [], _, _, h => by simp at h
  | x :: l, 0, a, h => by simp at h; subst h; rfl
  | x :: l, i + 1, a, h => by simp at h; simp [List.set_self l i a h]
/-- a slot's own is frozen: the slot holds it as a value from then on -/
theorem slot_freeze (st : Stt C ρ S σ g) {i : Nat} {rv : RV} (h : ρ[i]? = some rv.toSl) : ∃ v g', σ[i]? = some (some v) ∧ Stt C (ρ.set i (.val rv.toD)) S σ g' ∧ GLe C g g' ∧ g'.H = g.H ∧ R C.K g'.F g'.A rv.toD v := by
  have hi : i < ρ.length := (List.getElem?_eq_some_iff.mp h).1
  have s0 := st.at_ i _ h
  have hσ : i < σ.length := by rw [← st.len]; exact hi
  obtain ⟨v, hv⟩ : ∃ v, σ[i]? = some (some v) := by
    rw [List.getElem?_eq_getElem hσ] at s0 ⊢
    cases q : σ[i] with
    | some v => exact ⟨v, rfl⟩
    | none =>
      rw [q] at s0
      cases rv with
      | val d => obtain ⟨_, w, h1, _⟩ := s0; cases h1
      | own xs => obtain ⟨a, vs, _, h1, _⟩ := s0; cases h1
      | owd ks ds => obtain ⟨a, vs, _, h1, _⟩ := s0; cases h1
      | ow2 t xss => obtain ⟨a, vs, _, _, h1, _⟩ := s0; cases h1
  rw [hv] at s0
  have st1 := st.forget i
  obtain ⟨F', st2, le2, r2, out⟩ := sl_freeze st1 (rv := rv) (v := v) (p := g.P i) (fun a ha => ⟨st.pr i a ha, fun j => by
    show a ∉ (if j = i then [] else g.P j)
    by_cases hj : j = i
    · rw [if_pos hj]; simp
    · rw [if_neg hj]; exact fun q => hj (st.dis j i a q ha)⟩) s0
  have st3 := st2.put (i := i) (sl := .val rv.toD) (v := v) (p := []) (by simpa using hi) ⟨rfl, v, rfl, r2⟩ (fun a ha => by simp at ha)
  rw [List.set_set, List.set_self σ i _ hv] at st3
  refine ⟨v, _, hv, st3, ⟨le2, fun _ o h => ⟨o, h⟩, fun a o f ha => ⟨ha, ⟨(out a (f.2 i)).trans f.1.1, f.1.2.1, f.1.2.2⟩, fun j => ?_⟩⟩, rfl, r2⟩
  show a ∉ (if j = i then [] else if j = i then [] else g.P j)
  by_cases hj : j = i
  · rw [if_pos hj]; simp
  · rw [if_neg hj, if_neg hj]; exact f.2 j
end

/-! ### judgements in terms of one another -/
def M.frz (m : M RV) : M D := m.bind fun rv => M.ret rv.toD
def M.vl (m : M D) : M RV := m.bind fun d => M.ret (.val d)
section
variable {C : Ctx} {e a b : Expr} {es : List Expr}
theorem DE.of {m : M RV} (h : DO C e m) : DE C e m.frz := by
  obtain ⟨t, ht, hs⟩ := h
  refine ⟨t, ht, fun ρ S σ g Q st h => hs ρ S σ g Q st ?_⟩
  unfold M.frz M.bind at h
  cases e : m ρ S with
  | ok rv ρ1 S1 =>
    rw [e] at h
    intro v g1 st1 le1 r1
    obtain ⟨g2, st2, le2, eh, r2⟩ := rv_freeze st1 le1 r1
    have := h v g2 st2 le2 r2
    rw [eh] at this; exact this
  | exc x ρ1 S1 => rw [e] at h; exact h
  | bad => rw [e] at h; exact h
theorem DO.of {m : M D} (h : DE C e m) : DO C e m.vl := by
  obtain ⟨t, ht, hs⟩ := h
  exact ⟨t, ht, fun ρ S σ g Q st h => hs ρ S σ g Q st (postG_bind h fun d ρ1 S1 v g1 _ st1 le1 r1 h1 => h1 v g1 st1 (GLe.refl _ _) r1)⟩

/-! ### names, constants -/
def mVar (i : Nat) : M D := fun ρ S => match ρ[i]? with
  | some (.val d) => .ok d ρ S
  | some (.own xs) => .ok (.lst xs) (ρ.set i (.val (.lst xs))) S
  | some (.owd ks vs) => .ok (.dic ks vs) (ρ.set i (.val (.dic ks vs))) S
  | some (.ow2 t xss) => .ok (RV.ow2 t xss).toD (ρ.set i (.val (RV.ow2 t xss).toD)) S
  | _ => .bad
theorem postG_ok {α β : Type} {g : Gs} {σ : L2.St} {Rel : Gs → Gs → α → β → Prop} {x : α} {ρ : Env} {S : Store} {Q : β → Hp → Prop} (h : PostG C g σ Rel (.ok x ρ S) Q) {v : β} {g' : Gs} (st : Stt C ρ S σ g') (le : GLe C g g') (r : Rel g g' x v) : Q v g'.H := h v g' st le r
theorem de_var {x : Str} {pos : Pos} (i : Nat) (hN : C.N[i]? = some x := by rfl) (hv : Vis C.sc x := by first | exact Or.inl rfl | exact Or.inr (Or.inl rfl) | exact Or.inr (Or.inr rfl)) (hd : (x == ("__debug__" : Str)) = false := by decide +kernel) (hcd : (x == ("__classdict__" : Str)) = false := by decide +kernel) : DE C (.Name x pos) (mVar i) := by
  refine ⟨tVar i, fun X L => pe_var (by rw [L.N]; exact hN) (by rw [L.sc]; exact hv) hd hcd, fun ρ S σ g Q st h => ?_⟩
  unfold mVar at h
  cases hr : ρ[i]? with
  | none => rw [hr] at h; exact h.elim
  | some sl =>
    rw [hr] at h
    cases sl with
    | un => exact h.elim
    | val d =>
      have s0 := st.at_ i _ hr
      obtain ⟨_, v, e1, r⟩ := s0
      refine ⟨v, ?_, h v g st (GLe.refl _ _) r⟩
      cases q : σ[i]? with
      | none => rw [q] at e1; cases e1
      | some o =>
        rw [q] at e1
        have e1' : o = some v := e1
        rw [e1']
    | own xs =>
      obtain ⟨v, g', hv, st', le, eh, r⟩ := slot_freeze st (rv := .own xs) hr
      have := h v g' st' le r
      rw [eh] at this
      exact ⟨v, hv, this⟩
    | owd ks ds =>
      obtain ⟨v, g', hv, st', le, eh, r⟩ := slot_freeze st (rv := .owd ks ds) hr
      have := h v g' st' le r
      rw [eh] at this
      exact ⟨v, hv, this⟩
    | ow2 t xss =>
      obtain ⟨v, g', hv, st', le, eh, r⟩ := slot_freeze st (rv := .ow2 t xss) hr
      have := h v g' st' le r
      rw [eh] at this
      exact ⟨v, hv, this⟩
def mC (d : D) : M D := M.ret d
theorem de_c {v : V} {d : D} (hp : ∀ X, Lc C X → PE X e (tC v)) (hr : ∀ F A, R C.K F A d v) : DE C e (mC d) :=
  ⟨tC v, hp, fun ρ S σ g Q st h => h v g st (GLe.refl _ _) (hr _ _)⟩
theorem de_int {i : Int} {j pos} : DE C (.Constant (.int i) j pos) (mC (.int i)) := de_c (v := .int i) (fun _ _ => pe_int) fun _ _ => R_int.mpr rfl
theorem de_bl {i : Bool} {j pos} : DE C (.Constant (.bool i) j pos) (mC (.bl i)) := de_c (v := .bl i) (fun _ _ => pe_bl) fun _ _ => R_bl.mpr rfl
theorem de_non {j pos} : DE C (.Constant .none j pos) (mC .non) := de_c (v := .non) (fun _ _ => pe_non) fun _ _ => R_non.mpr rfl
theorem de_str {x : Str} {s : List Nat} {j pos} (h : x = mkS s) : DE C (.Constant (.str x) j pos) (mC (.str s)) := de_c (v := .str x) (fun _ _ => pe_str) fun _ _ => R_str.mpr (by rw [h])
/-- a constant of the module -/
theorem de_glob {x : Str} {v : V} {u : Value} {d : D} {pos : Pos} (hg : C.sc.names.lookup x = some .globalImplicit := by rfl) (hm : C.mg x = some u) (r : RelV v u) (hr : ∀ F A, R C.K F A d v) (hd : (x == ("__debug__" : Str)) = false := by decide +kernel) : DE C (.Name x pos) (mC d) :=
  de_c (v := v) (fun X L => pe_glob (show X.env.scope.names.lookup x = some .globalImplicit by rw [L.sc]; exact hg) (by rw [L.mg]; exact hm) r hd) hr

theorem M.bind_assoc {α β γ : Type} (m : M α) (f : α → M β) (h : β → M γ) : (m.bind f).bind h = m.bind fun a => (f a).bind h := by
  funext ρ S
  unfold M.bind
  cases m ρ S <;> rfl
theorem opt_post {α β : Type} {g : Gs} {σ : L2.St} {Rel : Gs → Gs → α → β → Prop} {o : Option α} {ρ : Env} {S : Store} {Q : β → Hp → Prop} (h : PostG C g σ Rel (M.opt o ρ S) Q) : ∃ x, o = some x ∧ PostG C g σ Rel (.ok x ρ S) Q := by
  cases o with
  | none => exact h.elim
  | some x => exact ⟨x, rfl, h⟩
end

/-! ### what is read as it stands now -/
def view (S : Store) : D → D
  | .cel n => match S[n]? with
    | some (.lst xs) => .lst xs
    | _ => .cel n
  | d => d
def Sl.view (S : Store) : Sl → Option D
  | .un => none
  | .val d => some (Thr.view S d)
  | .own xs => some (.lst xs)
  | .owd ks vs => some (.dic ks vs)
  | .ow2 _ _ => none
def RN (K : PySem.W.Frag) (g : Gs) (d : D) (v : V) : Prop :=
  match d with
  | .lst xs => ∃ a vs, v = .ref a ∧ g.H a = some (.lst vs) ∧ Rs K g.F g.A xs vs
  | .dic ks ds => ∃ a kvs, v = .ref a ∧ g.H a = some (.dK kvs) ∧ ks.map keyD = kvs.map (fun p => some p.1) ∧ Rs K g.F g.A ds (kvs.map (·.2))
  | d => R K g.F g.A d v
section
variable {C : Ctx} {ρ : Env} {S : Store} {σ : L2.St} {g : Gs}
theorem rn_r (st : Stt C ρ S σ g) {d : D} {v : V} (h : R C.K g.F g.A d v) : RN C.K g d v := by
  cases d with
  | lst xs => obtain ⟨a, vs, h1, h2, h3⟩ := R_lst.mp h; exact ⟨a, vs, h1, st.wd.sub _ _ h2, h3⟩
  | dic ks xs => obtain ⟨a, vs, h1, h2, h3, h4⟩ := R_dic.mp h; exact ⟨a, vs, h1, st.wd.sub _ _ h2, h3, h4⟩
  | _ => exact h
theorem rn_view (st : Stt C ρ S σ g) {d : D} {v : V} (h : R C.K g.F g.A d v) : RN C.K g (view S d) v := by
  cases d with
  | cel n =>
    obtain ⟨a, rfl, ha⟩ := R_cel.mp h
    show RN C.K g (match S[n]? with | some (.lst xs) => .lst xs | _ => .cel n) (.ref a)
    cases e : S[n]? with
    | none => exact h
    | some c =>
      cases c with
      | ins c fs => exact h
      | lst xs =>
        obtain ⟨vs, q1, q2⟩ := st.wd.cel n _ a e ha
        exact ⟨a, vs, rfl, q1, q2⟩
  | _ => exact rn_r st h
theorem rn_slot (st : Stt C ρ S σ g) {i : Nat} {sl : Sl} {d : D} {v : V} (hr : ρ[i]? = some sl) (hv : sl.view S = some d) (e : σ[i]? = some (some v)) : RN C.K g d v := by
  have s0 := st.at_ i _ hr
  rw [e] at s0
  cases sl with
  | un => cases hv
  | val x =>
    obtain ⟨_, w, e1, r⟩ := s0
    cases e1
    cases hv
    exact rn_view st r
  | own xs =>
    obtain ⟨a, vs, _, e1, h3, h4⟩ := s0
    cases e1
    cases hv
    exact ⟨a, vs, rfl, h3, h4⟩
  | owd ks xs =>
    obtain ⟨a, vs, _, e1, h3, h4, h5⟩ := s0
    cases e1
    cases hv
    exact ⟨a, vs, rfl, h3, h4, h5⟩
  | ow2 t xss => cases hv
theorem slot_val (st : Stt C ρ S σ g) {i : Nat} {sl : Sl} {d : D} (hr : ρ[i]? = some sl) (hv : sl.view S = some d) : ∃ v, σ[i]? = some (some v) := by
  have s0 := st.at_ i _ hr
  have hσ : i < σ.length := by rw [← st.len]; exact (List.getElem?_eq_some_iff.mp hr).1
  rw [List.getElem?_eq_getElem hσ] at s0 ⊢
  cases q : σ[i] with
  | some v => exact ⟨v, rfl⟩
  | none =>
    rw [q] at s0
    cases sl with
    | un => cases hv
    | val x => obtain ⟨_, w, e1, r⟩ := s0; cases e1
    | own xs => obtain ⟨a, vs, _, e1, h3, h4⟩ := s0; cases e1
    | owd ks xs => obtain ⟨a, vs, _, e1, h3, h4, h5⟩ := s0; cases e1
    | ow2 t xss => cases hv
end
/-! ### operands: a value, or a slot that is looked at where it is used -/
inductive Pk where
  | val (d : D) | slot (i : Nat)
def Pk.get (p : Pk) (ρ : Env) (S : Store) : Option D := match p with
  | .val d => some (view S d)
  | .slot i => match ρ[i]? with
    | some sl => sl.view S
    | none => none
def PkR (K : PySem.W.Frag) (σ : L2.St) (g : Gs) (p : Pk) (v : V) : Prop := match p with
  | .val d => R K g.F g.A d v
  | .slot i => σ[i]? = some (some v)
def DK (C : Ctx) (e : Expr) (m : M Pk) : Prop :=
  ∃ t, (∀ X, Lc C X → PE X e t) ∧ ∀ ρ S σ g Q, Stt C ρ S σ g → PostG C g σ (fun _ => PkR C.K σ) (m ρ S) Q → t σ g.H Q
def mK (m : M D) : M Pk := m.bind fun d => M.ret (.val d)
def mPk (i : Nat) : M Pk := fun ρ S => match ρ[i]? with
  | some sl => match sl.view S with
    | some _ => .ok (.slot i) ρ S
    | none => .bad
  | none => .bad
def M.look {α : Type} (p : Pk) (f : D → M α) : M α := fun ρ S => match p.get ρ S with
  | some d => f d ρ S
  | none => .bad
section
variable {C : Ctx} {e a b : Expr} {es : List Expr}
theorem DK.of {m : M D} (h : DE C e m) : DK C e (mK m) := by
  obtain ⟨t, ht, hs⟩ := h
  exact ⟨t, ht, fun ρ S σ g Q st h => hs ρ S σ g Q st (postG_bind h fun d ρ1 S1 v g1 _ st1 le1 r1 h1 => h1 v g1 st1 (GLe.refl _ _) r1)⟩
theorem dk_pk {x : Str} {pos : Pos} (i : Nat) (hN : C.N[i]? = some x := by rfl) (hv : Vis C.sc x := by first | exact Or.inl rfl | exact Or.inr (Or.inl rfl) | exact Or.inr (Or.inr rfl)) (hd : (x == ("__debug__" : Str)) = false := by decide +kernel) (hcd : (x == ("__classdict__" : Str)) = false := by decide +kernel) : DK C (.Name x pos) (mPk i) := by
  refine ⟨tVar i, fun X L => pe_var (by rw [L.N]; exact hN) (by rw [L.sc]; exact hv) hd hcd, fun ρ S σ g Q st h => ?_⟩
  unfold mPk at h
  cases hr : ρ[i]? with
  | none => rw [hr] at h; exact h.elim
  | some sl =>
    rw [hr] at h
    dsimp only at h
    cases hw : sl.view S with
    | none => rw [hw] at h; exact h.elim
    | some d =>
      rw [hw] at h
      obtain ⟨v, hv⟩ := slot_val st hr hw
      exact ⟨v, hv, h v g st (GLe.refl _ _) hv⟩
theorem pk_mono {K : PySem.W.Frag} {σ : L2.St} {g g' : Gs} {p : Pk} {v : V} (le : GLe C g g') (h : PkR K σ g p v) : PkR K σ g' p v := by
  cases p with
  | val d => exact R_mono le.le _ _ h
  | slot i => exact h
theorem pk_get {ρ : Env} {S : Store} {σ : L2.St} {g : Gs} (st : Stt C ρ S σ g) {p : Pk} {v : V} {d : D} (h : PkR C.K σ g p v) (e : p.get ρ S = some d) : RN C.K g d v := by
  cases p with
  | val x => cases e; exact rn_view st h
  | slot i =>
    have e' : (match ρ[i]? with | some sl => sl.view S | none => none) = some d := e
    cases hr : ρ[i]? with
    | none => rw [hr] at e'; cases e'
    | some sl => rw [hr] at e'; exact rn_slot st hr e' h
theorem look_post {α β : Type} {ρ : Env} {S : Store} {σ : L2.St} {g : Gs} {Rel : Gs → Gs → α → β → Prop} {p : Pk} {f : D → M α} {Q : β → Hp → Prop} (h : PostG C g σ Rel (M.look p f ρ S) Q) : ∃ d, p.get ρ S = some d ∧ PostG C g σ Rel (f d ρ S) Q := by
  unfold M.look at h
  cases e : p.get ρ S with
  | none => rw [e] at h; exact h.elim
  | some d => rw [e] at h; exact ⟨d, rfl, h⟩

/-! ### operators -/
/-- what an operator's rule does over data -/
def OpS (C : Ctx) (r : R2) (f : D → D → Option RV) : Prop :=
  ∀ ρ S σ g x y v u rv Q, Stt C ρ S σ g → RN C.K g x v → RN C.K g y u → f x y = some rv → (∀ w g', Stt C ρ S σ g' → GLe C g g' → RVR C g g' rv w → Q w g'.H) → r v u g.H Q
def mOp (f : D → D → Option RV) (ma mb : M Pk) : M RV := ma.bind fun p => mb.bind fun q => M.look p fun x => M.look q fun y => M.opt (f x y)
theorem op_core {r : R2} {f : D → D → Option RV} (ho : OpS C r f) {ma mb : M Pk} {ta tb : TE}
    (sa : ∀ ρ S σ g Q, Stt C ρ S σ g → PostG C g σ (fun _ => PkR C.K σ) (ma ρ S) Q → ta σ g.H Q)
    (sb : ∀ ρ S σ g Q, Stt C ρ S σ g → PostG C g σ (fun _ => PkR C.K σ) (mb ρ S) Q → tb σ g.H Q) :
    ∀ ρ S σ g Q, Stt C ρ S σ g → PostG C g σ (RVR C) (mOp f ma mb ρ S) Q → tOp r ta tb σ g.H Q := fun ρ S σ g Q st h =>
  sa ρ S σ g _ st (postG_bind h fun p ρ1 S1 v g1 _ st1 le1 r1 h1 => sb ρ1 S1 σ g1 _ st1 (postG_bind h1 fun q ρ2 S2 u g2 _ st2 le2 r2 h2 => by
    obtain ⟨x, ex, h3⟩ := look_post h2
    obtain ⟨y, ey, h4⟩ := look_post h3
    obtain ⟨rv, e, h5⟩ := opt_post h4
    exact ho ρ2 S2 σ g2 x y v u rv Q st2 (pk_get st2 (pk_mono le2 r1) ex) (pk_get st2 r2 ey) e fun w g' st' le' rr => h5 w g' st' le' rr))
theorem do_op {op : Operator} {r : R2} {f : D → D → Option RV} {ma mb : M Pk} {pos : Pos} (hr : ∀ X, Lc C X → OpR X (binaryOp op) r) (ho : OpS C r f) (ha : DK C a ma) (hb : DK C b mb) : DO C (.BinOp a op b pos) (mOp f ma mb) := by
  obtain ⟨ta, ha, sa⟩ := ha
  obtain ⟨tb, hb, sb⟩ := hb
  exact ⟨tOp r ta tb, fun X L => pe_op (hr X L) (ha X L) (hb X L), op_core ho sa sb⟩
theorem OpS.or {r r' : R2} {f f' : D → D → Option RV} (h : OpS C r f) (h' : OpS C r' f') : OpS C (fun x y H Q => r x y H Q ∨ r' x y H Q) (fun x y => (f x y).or (f' x y)) := by
  intro ρ S σ g x y v u rv Q st rx ry e k
  dsimp only at e
  cases q : f x y with
  | some z =>
    rw [q] at e
    have e' : some z = some rv := e
    cases e'
    exact .inl (h ρ S σ g x y v u _ Q st rx ry q k)
  | none =>
    rw [q] at e
    exact .inr (h' ρ S σ g x y v u rv Q st rx ry e k)
end
end Thr
namespace Thr
open PySem PySem.Spec PyProof.Rows L2

theorem mkS_app (a b : List Nat) : mkS a ++ mkS b = mkS (a ++ b) := by
  show (⟨_⟩ : Str) = _
  simp [mkS]
abbrev SZ : Nat := 16777216
theorem SZ_eq : sizeLine = SZ := sizeLine_eq

/-! ### == over data -/
mutual
def toP : D → Option PyData
  | .non => some .none
  | .bl b => some (.bool b)
  | .int i => some (.int i)
  | .str s => some (.str (mkS s))
  | .tup xs => (toPs xs).map .tuple
  | .lst xs => (toPs xs).map .list
  | .rol xs => (toPs xs).map .list
  | .dic _ _ => none
  | .cel _ => none
  | .typ _ => none
def toPs : List D → Option (List PyData)
  | [] => some []
  | x :: xs => match toP x, toPs xs with
    | some p, some ps => some (p :: ps)
    | _, _ => none
end
section
variable {K : PySem.W.Frag} {F H : Hp} {A : List Addr}
mutual
theorem toP_dp (e : Ex F H) : ∀ (d : D) (v : V) (p : PyData), R K F A d v → toP d = some p → Dp K H v p
  | .non, v, p, h, q => by
    rw [R_non] at h; subst h; unfold toP at q; cases q; exact .non
  | .bl b, v, p, h, q => by
    rw [R_bl] at h; subst h; unfold toP at q; cases q; exact .bl b
  | .int i, v, p, h, q => by
    rw [R_int] at h; subst h; unfold toP at q; cases q; exact .int i
  | .str s, v, p, h, q => by
    rw [R_str] at h; subst h; unfold toP at q; cases q; exact .str _
  | .tup xs, v, p, h, q => by
    obtain ⟨a, vs, rfl, h2, h3⟩ := R_tup.mp h
    unfold toP at q
    cases e1 : toPs xs with
    | none => rw [e1] at q; cases q
    | some ps =>
      rw [e1] at q; cases q
      exact .tup (e.t h2) (toPs_dp e xs vs ps h3 e1)
  | .lst xs, v, p, h, q => by
    obtain ⟨a, vs, rfl, h2, h3⟩ := R_lst.mp h
    unfold toP at q
    cases e1 : toPs xs with
    | none => rw [e1] at q; cases q
    | some ps =>
      rw [e1] at q; cases q
      exact .lst (SqL.of (e _ _ h2)) (toPs_dp e xs vs ps h3 e1)
  | .rol xs, v, p, h, q => by
    obtain ⟨a, vs, rfl, h2, h3⟩ := R_rol.mp h
    unfold toP at q
    cases e1 : toPs xs with
    | none => rw [e1] at q; cases q
    | some ps =>
      rw [e1] at q; cases q
      exact .lst (e.l h2) (toPs_dp e xs vs ps h3 e1)
  | .dic _ _, v, p, h, q => by unfold toP at q; cases q
  | .cel _, v, p, h, q => by unfold toP at q; cases q
  | .typ _, v, p, h, q => by unfold toP at q; cases q
theorem toPs_dp (e : Ex F H) : ∀ (ds : List D) (vs : List V) (ps : List PyData), Rs K F A ds vs → toPs ds = some ps → DpAll K H vs ps
  | [], vs, ps, h, q => by
    rw [Rs_nil] at h; subst h; unfold toPs at q; cases q; exact .nil
  | d :: ds, vs, ps, h, q => by
    obtain ⟨v, r, rfl, h2, h3⟩ := Rs_cons.mp h
    unfold toPs at q
    cases e1 : toP d with
    | none => rw [e1] at q; cases q
    | some p =>
      cases e2 : toPs ds with
      | none => rw [e1, e2] at q; cases q
      | some ps' =>
        rw [e1, e2] at q; cases q
        exact .cons (toP_dp e d v p h2 e1) (toPs_dp e ds r ps' h3 e2)
end
end
def dEqDeep (x y : D) : Option Bool := match toP x, toP y with
  | some p, some q => if (SeqAt.shaped p && SeqAt.shaped q) = true then some (PyData.eqv p q) else none
  | _, _ => none
def dEq : D → D → Option Bool
  | .int i, .int j => some (decide (i = j))
  | .str a, .str b => some (decide (a = b))
  | .bl a, .bl b => some (decide (a = b))
  | .non, .non => some true
  | .non, .int _ => some false
  | .int _, .non => some false
  | .non, .bl _ => some false
  | .bl _, .non => some false
  | .non, .str _ => some false
  | .str _, .non => some false
  | .int _, .str _ => some false
  | .str _, .int _ => some false
  | .bl _, .str _ => some false
  | .str _, .bl _ => some false
  | x, y => dEqDeep x y

theorem toP_rn {K : PySem.W.Frag} {g : Gs} (e : Ex g.F g.H) {d : D} {v : V} {p : PyData} (h : RN K g d v) (q : toP d = some p) : Dp K g.H v p := by
  cases d with
  | lst xs =>
    obtain ⟨a, vs, rfl, h2, h3⟩ := h
    unfold toP at q
    cases e1 : toPs xs with
    | none => rw [e1] at q; cases q
    | some ps => rw [e1] at q; cases q; exact .lst (SqL.of h2) (toPs_dp e xs vs ps h3 e1)
  | dic ks vs => unfold toP at q; cases q
  | _ => exact toP_dp e _ v p h q
theorem dI {K : PySem.W.Frag} {F : Hp} {A : List Addr} {i : Int} : R K F A (.int i) (.int i) := R_int.mpr rfl
theorem dB {K : PySem.W.Frag} {F : Hp} {A : List Addr} {i : Bool} : R K F A (.bl i) (.bl i) := R_bl.mpr rfl
theorem dS {K : PySem.W.Frag} {F : Hp} {A : List Addr} {i : List Nat} : R K F A (.str i) (.str (mkS i)) := R_str.mpr rfl
theorem dNn {K : PySem.W.Frag} {F : Hp} {A : List Addr} : R K F A .non .non := R_non.mpr rfl
theorem vI {C : Ctx} {g0 g : Gs} {i : Int} : RVR C g0 g (.val (.int i)) (.int i) := (R_int (K := C.K) (F := g.F) (A := g.A)).mpr rfl
theorem vB {C : Ctx} {g0 g : Gs} {i : Bool} : RVR C g0 g (.val (.bl i)) (.bl i) := (R_bl (K := C.K) (F := g.F) (A := g.A)).mpr rfl
theorem vS {C : Ctx} {g0 g : Gs} {i : List Nat} : RVR C g0 g (.val (.str i)) (.str (mkS i)) := (R_str (K := C.K) (F := g.F) (A := g.A)).mpr rfl
theorem vN {C : Ctx} {g0 g : Gs} : RVR C g0 g (.val .non) .non := (R_non (K := C.K) (F := g.F) (A := g.A)).mpr rfl
theorem RN_tup {K : PySem.W.Frag} {g : Gs} {v : V} {xs : List D} : RN K g (.tup xs) v ↔ ∃ a vs, v = .ref a ∧ SqT K g.F a vs ∧ Rs K g.F g.A xs vs := R_tup
theorem RN_rol {K : PySem.W.Frag} {g : Gs} {v : V} {xs : List D} : RN K g (.rol xs) v ↔ ∃ a vs, v = .ref a ∧ SqL K g.F a vs ∧ Rs K g.F g.A xs vs := R_rol
theorem RN_non {K : PySem.W.Frag} {g : Gs} {v : V} : RN K g .non v ↔ v = .non := R_non (K := K) (F := g.F) (A := g.A)
theorem RN_bl {K : PySem.W.Frag} {g : Gs} {v : V} {b : Bool} : RN K g (.bl b) v ↔ v = .bl b := R_bl (K := K) (F := g.F) (A := g.A)
theorem RN_int {K : PySem.W.Frag} {g : Gs} {v : V} {b : Int} : RN K g (.int b) v ↔ v = .int b := R_int (K := K) (F := g.F) (A := g.A)
theorem RN_str {K : PySem.W.Frag} {g : Gs} {v : V} {b : List Nat} : RN K g (.str b) v ↔ v = .str (mkS b) := R_str (K := K) (F := g.F) (A := g.A)
theorem RN_typ {K : PySem.W.Frag} {g : Gs} {v : V} {n : String} : RN K g (.typ n) v ↔ v = .ty n := R_typ (K := K) (F := g.F) (A := g.A)
theorem RN_cel {K : PySem.W.Frag} {g : Gs} {v : V} {n : Nat} : RN K g (.cel n) v ↔ ∃ a, v = .ref a ∧ g.A[n]? = some a := R_cel (K := K) (F := g.F) (A := g.A)
/-! ### rules over data -/
def CmS (C : Ctx) (r : R2) (f : D → D → Option Bool) : Prop :=
  ∀ ρ S σ g x y v u b Q, Stt C ρ S σ g → RN C.K g x v → RN C.K g y u → f x y = some b → Q (.bl b) g.H → r v u g.H Q
def mCmp (f : D → D → Option Bool) (ma mb : M Pk) : M Bool := ma.bind fun p => mb.bind fun q => M.look p fun x => M.look q fun y => M.opt (f x y)
def mB (m : M Bool) : M D := m.bind fun b => M.ret (.bl b)
section
variable {C : Ctx} {e a b c : Expr} {es : List Expr} {pos : Pos}
theorem cmp_coreE {r : R2} {f : D → D → Option Bool} (ho : CmS C r f) {ma mb : M Pk} {ta tb : TE}
    (sa : ∀ ρ S σ g Q, Stt C ρ S σ g → PostG C g σ (fun _ => PkR C.K σ) (ma ρ S) Q → ta σ g.H Q)
    (sb : ∀ ρ S σ g Q, Stt C ρ S σ g → PostG C g σ (fun _ => PkR C.K σ) (mb ρ S) Q → tb σ g.H Q) :
    ∀ ρ S σ g (Q : Bool → Hp → Prop), Stt C ρ S σ g → PostG C g σ (fun _ _ b v => v = b) (mCmp f ma mb ρ S) Q → tOp r ta tb σ g.H (fun x H => ∃ k, x = .bl k ∧ Q k H) := fun ρ S σ g Q st h =>
  sa ρ S σ g _ st (postG_bind h fun p ρ1 S1 v g1 _ st1 le1 r1 h1 => sb ρ1 S1 σ g1 _ st1 (postG_bind h1 fun q ρ2 S2 u g2 _ st2 le2 r2 h2 => by
    obtain ⟨x, ex, h3⟩ := look_post h2
    obtain ⟨y, ey, h4⟩ := look_post h3
    obtain ⟨b, e, h5⟩ := opt_post h4
    exact ho ρ2 S2 σ g2 x y v u b _ st2 (pk_get st2 (pk_mono le2 r1) ex) (pk_get st2 r2 ey) e ⟨b, rfl, h5 b g2 st2 (GLe.refl _ _) rfl⟩))
theorem dt_cmp {op : CmpOp} {r : R2} {f : D → D → Option Bool} {ma mb : M Pk} (hr : ∀ X, Lc C X → OpR X (compareOp op) r) (ho : CmS C r f) (ha : DK C a ma) (hb : DK C b mb) (hm : behindInMarks op b = false := by first | exact nomark _ | rfl | with_unfolding_all rfl) : DT C (.Compare a [op] [b] pos) (mCmp f ma mb) := by
  obtain ⟨ta, ha, sa⟩ := ha
  obtain ⟨tb, hb, sb⟩ := hb
  exact ⟨tTest (tOp r ta tb), fun X L => pt_cmpR (hr X L) (ha X L) (hb X L) hm, cmp_coreE ho sa sb⟩
theorem de_cmp {op : CmpOp} {r : R2} {f : D → D → Option Bool} {ma mb : M Pk} (hr : ∀ X, Lc C X → OpR X (compareOp op) r) (ho : CmS C r f) (ha : DK C a ma) (hb : DK C b mb) (hm : behindInMarks op b = false := by first | exact nomark _ | rfl | with_unfolding_all rfl) : DE C (.Compare a [op] [b] pos) (mB (mCmp f ma mb)) := by
  obtain ⟨ta, ha, sa⟩ := ha
  obtain ⟨tb, hb, sb⟩ := hb
  refine ⟨tOp r ta tb, fun X L => pe_cmpR (hr X L) (ha X L) (hb X L) hm, fun ρ S σ g Q st h => ?_⟩
  have eq : mB (mCmp f ma mb) = ma.bind fun p => mb.bind fun q => (M.look p fun x => M.look q fun y => M.opt (f x y)).bind fun b => M.ret (D.bl b) := by
    unfold mB mCmp
    rw [M.bind_assoc]
    congr 1; funext x
    rw [M.bind_assoc]
  rw [eq] at h
  refine sa ρ S σ g _ st (postG_bind h fun p ρ1 S1 v g1 _ st1 le1 r1 h1 => ?_)
  refine sb ρ1 S1 σ g1 _ st1 (postG_bind h1 fun q ρ2 S2 u g2 _ st2 le2 r2 h2 => ?_)
  unfold M.bind M.look at h2
  cases ex : p.get ρ2 S2 with
  | none => rw [ex] at h2; exact h2.elim
  | some x =>
    rw [ex] at h2
    dsimp only at h2
    cases ey : q.get ρ2 S2 with
    | none => rw [ey] at h2; exact h2.elim
    | some y =>
      rw [ey] at h2
      dsimp only at h2
      cases e : f x y with
      | none =>
        rw [e] at h2
        exact h2.elim
      | some k =>
        rw [e] at h2
        exact ho ρ2 S2 σ g2 x y v u k Q st2 (pk_get st2 (pk_mono le2 r1) ex) (pk_get st2 r2 ey) e (h2 (.bl k) g2 st2 (GLe.refl _ _) (R_bl.mpr rfl))
theorem CmS.or {r r' : R2} {f f' : D → D → Option Bool} (h : CmS C r f) (h' : CmS C r' f') : CmS C (fun x y H Q => r x y H Q ∨ r' x y H Q) (fun x y => (f x y).or (f' x y)) := by
  intro ρ S σ g x y v u b Q st rx ry e k
  dsimp only at e
  cases q : f x y with
  | some z =>
    rw [q] at e
    have e' : some z = some b := e
    cases e'
    exact .inl (h ρ S σ g x y v u _ Q st rx ry q k)
  | none =>
    rw [q] at e
    exact .inr (h' ρ S σ g x y v u b Q st rx ry e k)
theorem CmS.imp {r : R2} {f f' : D → D → Option Bool} (h : CmS C r f) (k : ∀ x y b, f' x y = some b → f x y = some b) : CmS C r f' := fun ρ S σ g x y v u b Q st rx ry e q => h ρ S σ g x y v u b Q st rx ry (k x y b e) q

theorem cs_eq : CmS C (fun x y H Q => rEq x y H Q ∨ rEqD C.K x y H Q) dEq := by
  intro ρ S σ g x y v u b Q st rx ry e q
  have deep : dEqDeep x y = some b → rEqD C.K v u g.H Q := fun h => by
    unfold dEqDeep at h
    cases e1 : toP x with
    | none => rw [e1] at h; cases h
    | some p =>
      cases e2 : toP y with
      | none => rw [e1, e2] at h; cases h
      | some p' =>
        rw [e1, e2] at h
        dsimp only at h
        split at h
        · rename_i hs
          cases h
          rw [Bool.and_eq_true] at hs
          exact ⟨p, p', toP_rn st.wd.sub rx e1, toP_rn st.wd.sub ry e2, hs.1, hs.2, q⟩
        · cases h
  unfold dEq at e
  split at e
  all_goals first
    | exact .inr (deep e)
    | skip
  all_goals cases e
  all_goals (first | rw [RN_non] at rx | rw [RN_int] at rx | rw [RN_bl] at rx | rw [RN_str] at rx)
  all_goals (first | rw [RN_non] at ry | rw [RN_int] at ry | rw [RN_bl] at ry | rw [RN_str] at ry)
  all_goals subst rx ry
  all_goals refine .inl ⟨rfl, ?_⟩
  all_goals first
    | (rename_i i j; have e : decide (V.int i = V.int j) = decide (i = j) := by simp
       rw [e]; exact q)
    | (rename_i i j; have e : decide (V.str (mkS i) = V.str (mkS j)) = decide (i = j) := by
         rw [decide_eq_decide]; exact ⟨fun h => mkS_inj (V.str.inj h), fun h => by rw [h]⟩
       rw [e]; exact q)
    | (rename_i i j; have e : decide (V.bl i = V.bl j) = decide (i = j) := by simp
       rw [e]; exact q)
    | (simpa using q)
def dNe (x y : D) : Option Bool := (dEq x y).map (!·)
theorem cs_ne : CmS C (fun x y H Q => rNe x y H Q ∨ rNeD C.K x y H Q) dNe := by
  intro ρ S σ g x y v u b Q st rx ry e q
  unfold dNe at e
  cases e1 : dEq x y with
  | none => rw [e1] at e; cases e
  | some k =>
    rw [e1] at e
    cases e
    rcases cs_eq ρ S σ g x y v u k (fun w H => w = .bl k ∧ Q (.bl (!k)) H) st rx ry e1 ⟨rfl, q⟩ with ⟨h1, h2, h3⟩ | ⟨d, e', h1, h2, h3, h4, h5, h6⟩
    · refine .inl ⟨h1, ?_⟩
      rw [V.bl.inj h2]; exact h3
    · refine .inr ⟨d, e', h1, h2, h3, h4, ?_⟩
      rw [V.bl.inj h5]; exact h6
theorem hr_eq : ∀ X, Lc C X → OpR X (compareOp .Eq) (fun x y H Q => rEq x y H Q ∨ rEqD C.K x y H Q) := fun X L => by
  have := L.K
  exact (op_eq (X := X)).or (by rw [← L.K]; exact op_eqD L.room.units)
theorem hr_ne : ∀ X, Lc C X → OpR X (compareOp .NotEq) (fun x y H Q => rNe x y H Q ∨ rNeD C.K x y H Q) := fun X L => by
  have := L.K
  exact (op_ne (X := X)).or (by rw [← L.K]; exact op_neD L.room.units)

/-- order: of ints, of texts -/
def strLt (a b : List Nat) : Bool := decide (a < b)
def dLt : D → D → Option Bool
  | .int i, .int j => some (decide (i < j))
  | .str a, .str b => some (strLt a b)
  | _, _ => none
def dLe : D → D → Option Bool
  | .int i, .int j => some (decide (i ≤ j))
  | .str a, .str b => some (!strLt b a)
  | _, _ => none
def dGt : D → D → Option Bool
  | .int i, .int j => some (decide (j < i))
  | .str a, .str b => some (strLt b a)
  | _, _ => none
def dGe : D → D → Option Bool
  | .int i, .int j => some (decide (j ≤ i))
  | .str a, .str b => some (!strLt a b)
  | _, _ => none
abbrev rOrd (f : Int → Int → Bool) (g : List Nat → List Nat → Bool) : R2 := fun x y H Q => (rI0 fun i j => .bl (f i j)) x y H Q ∨ ∃ i j, x = .str i ∧ y = .str j ∧ Q (.bl (g i.cps.toList j.cps.toList)) H
theorem cs_ord {f : Int → Int → Bool} {g' : List Nat → List Nat → Bool} {d : D → D → Option Bool} (h : ∀ x y b, d x y = some b → (∃ i j, x = .int i ∧ y = .int j ∧ b = f i j) ∨ ∃ i j, x = .str i ∧ y = .str j ∧ b = g' i j) : CmS C (rOrd f g') d := by
  intro ρ S σ g x y v u b Q st rx ry e q
  rcases h x y b e with ⟨i, j, rfl, rfl, rfl⟩ | ⟨i, j, rfl, rfl, rfl⟩
  · rw [RN_int] at rx ry; subst rx ry
    exact .inl ⟨i, j, rfl, rfl, q⟩
  · rw [RN_str] at rx ry; subst rx ry
    exact .inr ⟨_, _, rfl, rfl, by rw [mkS_toList, mkS_toList]; exact q⟩
theorem cs_lt : CmS C (rOrd (fun i j => decide (i < j)) fun a b => decide (a < b)) dLt := cs_ord fun x y b e => by
  unfold dLt at e; split at e <;> cases e
  · exact .inl ⟨_, _, rfl, rfl, rfl⟩
  · exact .inr ⟨_, _, rfl, rfl, rfl⟩
theorem cs_le : CmS C (rOrd (fun i j => decide (i ≤ j)) fun a b => !decide (b < a)) dLe := cs_ord fun x y b e => by
  unfold dLe at e; split at e <;> cases e
  · exact .inl ⟨_, _, rfl, rfl, rfl⟩
  · exact .inr ⟨_, _, rfl, rfl, rfl⟩
theorem cs_gt : CmS C (rOrd (fun i j => decide (j < i)) fun a b => decide (b < a)) dGt := cs_ord fun x y b e => by
  unfold dGt at e; split at e <;> cases e
  · exact .inl ⟨_, _, rfl, rfl, rfl⟩
  · exact .inr ⟨_, _, rfl, rfl, rfl⟩
theorem cs_ge : CmS C (rOrd (fun i j => decide (j ≤ i)) fun a b => !decide (a < b)) dGe := cs_ord fun x y b e => by
  unfold dGe at e; split at e <;> cases e
  · exact .inl ⟨_, _, rfl, rfl, rfl⟩
  · exact .inr ⟨_, _, rfl, rfl, rfl⟩
theorem hr_lt : ∀ X, Lc C X → OpR X (compareOp .Lt) (rOrd (fun i j => decide (i < j)) fun a b => decide (a < b)) := fun X L => (op_lt (X := X)).or op_lt_str
theorem hr_le : ∀ X, Lc C X → OpR X (compareOp .LtE) (rOrd (fun i j => decide (i ≤ j)) fun a b => !decide (b < a)) := fun X L => (op_le (X := X)).or op_le_str
theorem hr_gt : ∀ X, Lc C X → OpR X (compareOp .Gt) (rOrd (fun i j => decide (j < i)) fun a b => decide (b < a)) := fun X L => (op_gt (X := X)).or op_gt_str
theorem hr_ge : ∀ X, Lc C X → OpR X (compareOp .GtE) (rOrd (fun i j => decide (j ≤ i)) fun a b => !decide (a < b)) := fun X L => (op_ge (X := X)).or op_ge_str
/-- is None -/
def dIsN : D → Bool
  | .non => true
  | _ => false
theorem dIsN_v {K : PySem.W.Frag} {g : Gs} {x : D} {v : V} (h : RN K g x v) : decide (v = .non) = dIsN x := by
  cases x with
  | non => rw [RN_non] at h; subst h; rfl
  | bl b => rw [RN_bl] at h; subst h; rfl
  | int b => rw [RN_int] at h; subst h; rfl
  | str b => rw [RN_str] at h; subst h; rfl
  | tup xs => obtain ⟨a, vs, rfl, _⟩ := RN_tup.mp h; rfl
  | lst xs => obtain ⟨a, vs, rfl, _⟩ := h; rfl
  | rol xs => obtain ⟨a, vs, rfl, _⟩ := RN_rol.mp h; rfl
  | dic ks xs => obtain ⟨a, vs, rfl, _⟩ := h; rfl
  | cel n => obtain ⟨a, rfl, _⟩ := RN_cel.mp h; rfl
  | typ n => rw [RN_typ] at h; subst h; rfl
def dIs (x y : D) : Option Bool := if dIsN y = true then some (dIsN x) else none
def dIsNot (x y : D) : Option Bool := if dIsN y = true then some (!dIsN x) else none
theorem cs_is : CmS C (fun x y H Q => y = .non ∧ Q (.bl (decide (x = .non))) H) dIs := by
  intro ρ S σ g x y v u b Q st rx ry e q
  unfold dIs at e
  split at e
  · rename_i hy
    cases e
    refine ⟨?_, by rw [dIsN_v rx]; exact q⟩
    exact of_decide_eq_true ((dIsN_v ry).trans hy)
  · cases e
theorem cs_isnot : CmS C (fun x y H Q => y = .non ∧ Q (.bl (!decide (x = .non))) H) dIsNot := by
  intro ρ S σ g x y v u b Q st rx ry e q
  unfold dIsNot at e
  split at e
  · rename_i hy
    cases e
    refine ⟨?_, by rw [dIsN_v rx]; exact q⟩
    exact of_decide_eq_true ((dIsN_v ry).trans hy)
  · cases e
end
end Thr
namespace Thr
open PySem PySem.Spec PyProof.Rows L2

section
variable {C : Ctx} {ρ : Env} {S : Store} {σ : L2.St} {g : Gs}
theorem own_new (st : Stt C ρ S σ g) {p : Addr} (h : g.H p = none) {xs : List D} {vs : List V} (r : Rs C.K g.F g.A xs vs) : RVR C g (g.pv p (.lst vs)) (.own xs) (.ref p) :=
  ⟨[p], fun a ha => by rw [List.mem_singleton] at ha; subst ha; exact ⟨st.free h, h⟩, p, vs, rfl, rfl, upd_same, r⟩
theorem owd_new (st : Stt C ρ S σ g) {p : Addr} (h : g.H p = none) {ks ds : List D} {kvs : List (Key × V)} (hk : ks.map keyD = kvs.map (fun p => some p.1)) (r : Rs C.K g.F g.A ds (kvs.map (·.2))) : RVR C g (g.pv p (.dK kvs)) (.owd ks ds) (.ref p) :=
  ⟨[p], fun a ha => by rw [List.mem_singleton] at ha; subst ha; exact ⟨st.free h, h⟩, p, kvs, rfl, rfl, upd_same, hk, r⟩
theorem tup_new (st : Stt C ρ S σ g) {p : Addr} (h : g.H p = none) {xs : List D} {vs : List V} (r : Rs C.K g.F g.A xs vs) : R C.K (g.up p (.tup vs)).F (g.up p (.tup vs)).A (.tup xs) (.ref p) :=
  R_tup.mpr ⟨p, vs, rfl, SqT.of upd_same, Rs_mono (st.le_up h).le _ _ r⟩
theorem lst_new (st : Stt C ρ S σ g) {p : Addr} (h : g.H p = none) {xs : List D} {vs : List V} (r : Rs C.K g.F g.A xs vs) : R C.K (g.up p (.lst vs)).F (g.up p (.lst vs)).A (.lst xs) (.ref p) :=
  R_lst.mpr ⟨p, vs, rfl, upd_same, Rs_mono (st.le_up h).le _ _ r⟩
end

/-! ### arithmetic -/
def CMulB (i j : Int) : Bool := (decide (-(2 ^ 64) < i) && decide (i < 2 ^ 64)) || (decide (-(2 ^ 64) < j) && decide (j < 2 ^ 64))
def dAdd : D → D → Option RV
  | .int i, .int j => some (.val (.int (i + j)))
  | .str a, .str b => if a.length + b.length ≤ SZ then some (.val (.str (a ++ b))) else none
  | .lst a, .lst b => if a.length + b.length ≤ SZ then some (.own (a ++ b)) else none
  | .tup a, .tup b => if a.length + b.length ≤ SZ then some (.val (.tup (a ++ b))) else none
  | _, _ => none
def dSub : D → D → Option RV
  | .int i, .int j => some (.val (.int (i - j)))
  | _, _ => none
def dMul : D → D → Option RV
  | .int i, .int j => if CMulB i j = true then some (.val (.int (i * j))) else none
  | .str a, .int n => if -1000 ≤ n ∧ n ≤ 100000 ∧ a.length * n.toNat ≤ SZ then some (.val (.str (List.replicate n.toNat a).flatten)) else none
  | .lst a, .int n => if -1000 ≤ n ∧ n ≤ 100000 ∧ a.length * n.toNat ≤ SZ then some (.own (List.replicate n.toNat a).flatten) else none
  | .tup a, .int n => if a ≠ [] ∧ 2 ≤ n ∧ n ≤ 1000 ∧ a.length ≤ 1000 then some (.val (.tup (List.replicate n.toNat a).flatten)) else none
  | _, _ => none
def dMod : D → D → Option RV
  | .int i, .int j => if 0 < j then some (.val (.int (i % j))) else none
  | _, _ => none
def dFdiv : D → D → Option RV
  | .int i, .int j => if 0 < j ∧ j < 1073741824 then some (.val (.int (i / j))) else none
  | _, _ => none
def dPow : D → D → Option RV
  | .int i, .int j => if 0 ≤ j ∧ j ≤ 1000 ∧ i.natAbs < 1000 then some (.val (.int (i ^ j.toNat))) else none
  | _, _ => none

theorem op_mul_str {X : Cx} : OpR X (binaryOp .Mult) (fun x y H Q => ∃ (a : List Nat) (n : Int), x = .str (mkS a) ∧ y = .int n ∧ -1000 ≤ n ∧ n ≤ 100000 ∧ a.length * n.toNat ≤ sizeLine ∧ Q (.str (mkS (List.replicate n.toNat a).flatten)) H) := by
  intro pins s σ H x y v u Q I rx ry h
  obtain ⟨a, n, rfl, rfl, h1, h2, h3, q⟩ := h
  obtain ⟨t, rfl⟩ := rx
  obtain ⟨t', rfl⟩ := ry
  have hs : sizeLine = 16777216 := sizeLine_eq
  have hlen : (mkS a).length = a.length := mkS_len a
  refine PySem.P.mul_str ?_ (fun h4 h5 => ?_) (fun h4 h5 => ?_) ?_
  · rw [decide_eq_false (by omega), decide_eq_false (by omega)]; rfl
  · rw [hlen]
    have hn : 0 < n := by omega
    have : ((a.length : Nat) : Int) * n ≤ 16777216 := by
      have e : ((a.length : Nat) : Int) * n = ((a.length * n.toNat : Nat) : Int) := by
        rw [Int.natCast_mul]; congr 1; omega
      rw [e]; omega
    intro hh
    have h6 : ((2 : Int) ^ 63 - 1) / n < a.length := hh
    have h7 : (2 : Int) ^ 63 - 1 < a.length * n := by
      have := (Int.ediv_lt_iff_lt_mul hn).mp h6
      exact this
    omega
  · rw [hlen]
    exact decide_eq_false (show ¬ (a.length * n.toNat > sizeLine) by omega)
  · by_cases hn : n < 1
    · rw [if_pos hn]
      have e : n.toNat = 0 := by omega
      refine ⟨by decide, .str _, H, I.tok _, ⟨s.toks, rfl⟩, ?_⟩
      rw [e] at q
      exact q
    · rw [if_neg hn]
      by_cases h4 : (n == 1 || (mkS a).length == 0) = true
      · rw [if_pos h4]
        refine ⟨.str (mkS a), H, I, ⟨_, rfl⟩, ?_⟩
        rw [Bool.or_eq_true] at h4
        rcases h4 with h4 | h4
        · have e : n = 1 := by simpa using h4
          subst e
          simpa using q
        · have e : a = [] := by
            have : a.length = 0 := by rw [hlen] at h4; simpa using h4
            exact List.eq_nil_of_length_eq_zero this
          subst e
          simpa using q
      · rw [if_neg h4]
        have e : (List.replicate n.toNat (mkS a).cps).foldl (· ++ ·) #[] = (List.replicate n.toNat a).flatten.toArray := by
          have gen : ∀ (m : Nat) (acc : List Nat), (List.replicate m (mkS a).cps).foldl (· ++ ·) acc.toArray = (acc ++ (List.replicate m a).flatten).toArray := by
            intro m
            induction m with
            | zero => intro acc; simp
            | succ m ih =>
              intro acc
              rw [List.replicate_succ, List.foldl_cons]
              have : acc.toArray ++ (mkS a).cps = (acc ++ a).toArray := by simp [mkS]
              rw [this, ih]
              simp [List.replicate_succ]
          have := gen n.toNat []
          simpa using this
        rw [e]
        refine ⟨?_, .str _, H, I.tok _, ⟨s.toks, rfl⟩, q⟩
        have : (mkS (List.replicate n.toNat a).flatten).length ≤ sizeLine := by
          rw [mkS_len]
          simp [List.length_flatten]
          rw [Nat.mul_comm]; exact h3
        exact this

section
variable {C : Ctx} {e a b c : Expr} {es : List Expr} {pos : Pos}
abbrev os1 (f : Int → Int → Option RV) : D → D → Option RV := fun x y => match x, y with
  | .int i, .int j => f i j
  | _, _ => none
theorem os_val {r : R2} {f : D → D → Option RV} (h : ∀ x y rv, f x y = some rv → ∃ d, rv = .val d ∧ ∀ (g : Gs) (v u : V) (Q : VK), RN C.K g x v → RN C.K g y u → (∀ w, (∀ F A, R C.K F A d w) → Q w g.H) → r v u g.H Q) : OpS C r f := by
  intro ρ S σ g x y v u rv Q st rx ry e k
  obtain ⟨d, rfl, h1⟩ := h x y rv e
  exact h1 g v u Q rx ry fun w hw => k w g st (GLe.refl _ _) (hw _ _)
abbrev rAdd4 (K : PySem.W.Frag) : R2 := fun x y H Q => (rI0 fun i j => .int (i + j)) x y H Q ∨ (∃ i j, x = .str i ∧ y = .str j ∧ i.length + j.length ≤ sizeLine ∧ Q (.str (i ++ j)) H) ∨ rCat x y H Q ∨ rCatA K x y H Q
theorem hr_add : ∀ X, Lc C X → OpR X (binaryOp .Add) (rAdd4 C.K) := fun X L => by
  have hk := L.K
  have h := (op_add (X := X)).or ((op_add_str (X := X)).or ((op_cat (X := X)).or (op_catA (X := X))))
  rw [hk] at h
  exact h
theorem Rs_nil_app {K : PySem.W.Frag} {F : Hp} {A : List Addr} {xs : List D} (h : Rs K F A xs []) : xs = [] := by
  have := Rs_len h
  exact List.eq_nil_of_length_eq_zero (by simpa using this)
theorem os_add : OpS C (rAdd4 C.K) dAdd := by
  intro ρ S σ g x y v u rv Q st rx ry e k
  have hs : sizeLine = SZ := SZ_eq
  unfold dAdd at e
  split at e
  · cases e
    rw [RN_int] at rx ry; subst rx ry
    exact .inl ⟨_, _, rfl, rfl, k _ g st (GLe.refl _ _) vI⟩
  · split at e
    · cases e
      rw [RN_str] at rx ry; subst rx ry
      refine .inr (.inl ⟨_, _, rfl, rfl, by rw [mkS_len, mkS_len, hs]; assumption, ?_⟩)
      rw [mkS_app]
      exact k _ g st (GLe.refl _ _) vS
    · cases e
  · split at e
    · cases e
      rename_i xs ys hz
      obtain ⟨p, vs, rfl, h1, h2⟩ := rx
      obtain ⟨q, ws, rfl, h3, h4⟩ := ry
      refine .inr (.inr (.inl ⟨p, q, vs, ws, rfl, rfl, h1, h3, by rw [← Rs_len h2, ← Rs_len h4, hs]; exact hz, fun z hz => ?_⟩))
      exact k _ (g.pv z (.lst (vs ++ ws))) (st.priv hz) (Stt.le_pv hz) (own_new st hz (Rs_append h2 h4))
    · cases e
  · split at e
    · cases e
      rename_i xs ys hz
      obtain ⟨p, vs, rfl, h1, h2⟩ := RN_tup.mp rx
      obtain ⟨q, ws, rfl, h3, h4⟩ := RN_tup.mp ry
      refine .inr (.inr (.inr ⟨p, q, vs, ws, rfl, rfl, st.wd.sub.t h1, st.wd.sub.t h3, by rw [← Rs_len h2, ← Rs_len h4, hs]; exact hz, fun hv => ?_, fun hv hw => ?_, fun hv hw z hz => ?_⟩))
      · subst hv
        rw [Rs_nil_app h2] at k
        exact k _ g st (GLe.refl _ _) ry
      · subst hw
        rw [Rs_nil_app h4, List.append_nil] at k
        exact k _ g st (GLe.refl _ _) rx
      · exact k _ (g.up z (.tup (vs ++ ws))) (st.grow hz) (st.le_up hz) (tup_new st hz (Rs_append h2 h4))
    · cases e
  · cases e
theorem Rs_rep {K : PySem.W.Frag} {F : Hp} {A : List Addr} {xs : List D} {vs : List V} (h : Rs K F A xs vs) : ∀ n : Nat, Rs K F A (List.replicate n xs).flatten (List.replicate n vs).flatten
  | 0 => by simp [Rs_nil]
  | n + 1 => by simp only [List.replicate_succ, List.flatten_cons]; exact Rs_append h (Rs_rep h n)
abbrev rMul4 (K : PySem.W.Frag) : R2 := fun x y H Q => (rI CMul fun i j => .int (i * j)) x y H Q ∨ (∃ (a : List Nat) (n : Int), x = .str (mkS a) ∧ y = .int n ∧ -1000 ≤ n ∧ n ≤ 100000 ∧ a.length * n.toNat ≤ sizeLine ∧ Q (.str (mkS (List.replicate n.toNat a).flatten)) H) ∨ rRep x y H Q ∨ rRepT K x y H Q
theorem hr_mul : ∀ X, Lc C X → OpR X (binaryOp .Mult) (rMul4 C.K) := fun X L => by
  have hk := L.K
  have h := (op_mul (X := X)).or ((op_mul_str (X := X)).or ((op_rep (X := X)).or (op_repT (X := X))))
  rw [hk] at h
  exact h
theorem CMulB_ok {i j : Int} (h : CMulB i j = true) : CMul i j := by
  unfold CMulB at h
  rw [Bool.or_eq_true, Bool.and_eq_true, Bool.and_eq_true, decide_eq_true_eq, decide_eq_true_eq, decide_eq_true_eq, decide_eq_true_eq] at h
  exact h
theorem os_mul : OpS C (rMul4 C.K) dMul := by
  intro ρ S σ g x y v u rv Q st rx ry e k
  have hs : sizeLine = SZ := SZ_eq
  unfold dMul at e
  split at e
  · split at e
    · cases e
      rw [RN_int] at rx ry; subst rx ry
      exact .inl ⟨_, _, rfl, rfl, CMulB_ok (by assumption), k _ g st (GLe.refl _ _) vI⟩
    · cases e
  · split at e
    · cases e
      rename_i a n hc
      rw [RN_str] at rx; rw [RN_int] at ry; subst rx ry
      exact .inr (.inl ⟨_, _, rfl, rfl, hc.1, hc.2.1, by rw [hs]; exact hc.2.2, k _ g st (GLe.refl _ _) vS⟩)
    · cases e
  · split at e
    · cases e
      rename_i a n hc
      obtain ⟨p, vs, rfl, h1, h2⟩ := rx
      rw [RN_int] at ry; subst ry
      refine .inr (.inr (.inl ⟨p, n, vs, rfl, rfl, h1, by omega, by omega, by rw [← Rs_len h2, hs]; exact hc.2.2, fun z hz => ?_⟩))
      exact k _ (g.pv z _) (st.priv hz) (Stt.le_pv hz) (own_new st hz (Rs_rep h2 _))
    · cases e
  · split at e
    · cases e
      rename_i a n hc
      obtain ⟨p, vs, rfl, h1, h2⟩ := RN_tup.mp rx
      rw [RN_int] at ry; subst ry
      have hl := Rs_len h2
      refine .inr (.inr (.inr ⟨p, n, vs, rfl, rfl, st.wd.sub.t h1, fun z => hc.1 (List.eq_nil_of_length_eq_zero (by rw [hl, z]; rfl)), hc.2.1, hc.2.2.1, by rw [← hl]; exact hc.2.2.2, fun z hz => ?_⟩))
      exact k _ (g.up z _) (st.grow hz) (st.le_up hz) (tup_new st hz (Rs_rep h2 _))
    · cases e
  · cases e
theorem hr_sub : ∀ X, Lc C X → OpR X (binaryOp .Sub) (rI0 fun i j => .int (i - j)) := fun X L => op_sub
theorem os_sub : OpS C (rI0 fun i j => .int (i - j)) dSub := by
  intro ρ S σ g x y v u rv Q st rx ry e k
  unfold dSub at e
  split at e
  · cases e
    rw [RN_int] at rx ry; subst rx ry
    exact ⟨_, _, rfl, rfl, k _ g st (GLe.refl _ _) vI⟩
  · cases e
theorem hr_mod : ∀ X, Lc C X → OpR X (binaryOp .Mod) (rI (fun _ j => 0 < j) fun i j => .int (i % j)) := fun X L => op_mod
theorem os_mod : OpS C (rI (fun _ j => 0 < j) fun i j => .int (i % j)) dMod := by
  intro ρ S σ g x y v u rv Q st rx ry e k
  unfold dMod at e
  split at e
  · split at e
    · cases e
      rw [RN_int] at rx ry; subst rx ry
      exact ⟨_, _, rfl, rfl, by assumption, k _ g st (GLe.refl _ _) vI⟩
    · cases e
  · cases e
theorem hr_fdiv : ∀ X, Lc C X → OpR X (binaryOp .FloorDiv) (rI CDiv fun i j => .int (i / j)) := fun X L => op_fdiv
theorem os_fdiv : OpS C (rI CDiv fun i j => .int (i / j)) dFdiv := by
  intro ρ S σ g x y v u rv Q st rx ry e k
  unfold dFdiv at e
  split at e
  · split at e
    · cases e
      rw [RN_int] at rx ry; subst rx ry
      exact ⟨_, _, rfl, rfl, by assumption, k _ g st (GLe.refl _ _) vI⟩
    · cases e
  · cases e
theorem hr_pow : ∀ X, Lc C X → OpR X (binaryOp .Pow) (rI CPow fun i j => .int (i ^ j.toNat)) := fun X L => op_pow
theorem os_pow : OpS C (rI CPow fun i j => .int (i ^ j.toNat)) dPow := by
  intro ρ S σ g x y v u rv Q st rx ry e k
  unfold dPow at e
  split at e
  · split at e
    · cases e
      rename_i hc
      rw [RN_int] at rx ry; subst rx ry
      exact ⟨_, _, rfl, rfl, ⟨hc.1, by omega, by omega⟩, k _ g st (GLe.refl _ _) vI⟩
    · cases e
  · cases e
end
end Thr
namespace Thr
open PySem PySem.Spec PyProof.Rows L2

/-! ### tests -/
def DW (C : Ctx) (e : Expr) (m : M Bool) : Prop :=
  ∃ t, (∀ X, Lc C X → PW X e t) ∧ ∀ ρ S σ g Q, Stt C ρ S σ g → PostG C g σ (fun _ _ b v => v = b) (m ρ S) Q → t σ g.H Q
def mNot (m : M Bool) : M Bool := m.bind fun b => M.ret (!b)
def mAnd (m n : M Bool) : M Bool := m.bind fun b => if b = true then n else M.ret false
def mOr (m n : M Bool) : M Bool := m.bind fun b => if b = true then M.ret true else n
def dBl : D → Option Bool
  | .bl b => some b
  | _ => none
def dTru : D → Option Bool
  | .non => some false
  | .bl b => some b
  | .int i => some (i != 0)
  | .str s => if s.length ≤ SZ then some ((s.length : Int) != 0) else none
  | .tup xs => some (!xs.isEmpty)
  | .lst xs => some (!xs.isEmpty)
  | .rol xs => some (!xs.isEmpty)
  | .dic ks _ => some (!ks.isEmpty)
  | .cel _ => none
  | .typ _ => none
def mTru (m : M Pk) : M Bool := m.bind fun p => M.look p fun d => M.opt (dTru d)
def mBl (m : M D) : M Bool := m.bind fun d => M.opt (dBl d)
def mIf {α : Type} (c : M Bool) (m n : M α) : M α := c.bind fun b => if b = true then m else n
section
variable {C : Ctx} {e a b c : Expr} {es : List Expr} {pos : Pos} {rest : List Expr}
theorem DT.of {m : M Bool} (h : DW C e m) : DT C e m := by
  obtain ⟨t, ht, hs⟩ := h
  exact ⟨t, fun X L => (ht X L).pt, hs⟩
theorem dt_not {m : M Bool} (h : DT C a m) : DT C (.UnaryOp .Not a pos) (mNot m) := by
  obtain ⟨t, ht, hs⟩ := h
  exact ⟨tNot t, fun X L => pt_not (ht X L), fun ρ S σ g Q st h => hs ρ S σ g _ st (postG_bind h fun b ρ1 S1 v g1 _ st1 le1 r1 h1 => by subst r1; exact h1 _ g1 st1 (GLe.refl _ _) rfl)⟩
theorem dw_and1 {m : M Bool} (h : DT C a m) : DW C (.BoolOp .And [a] pos) m := by
  obtain ⟨t, ht, hs⟩ := h
  exact ⟨t, fun X L => pw_and1 (ht X L), hs⟩
theorem dw_or1 {m : M Bool} (h : DT C a m) : DW C (.BoolOp .Or [a] pos) m := by
  obtain ⟨t, ht, hs⟩ := h
  exact ⟨t, fun X L => pw_or1 (ht X L), hs⟩
theorem dw_and {m n : M Bool} (h : DT C a m) (h' : DW C (.BoolOp .And (b :: rest) pos) n) : DW C (.BoolOp .And (a :: b :: rest) pos) (mAnd m n) := by
  obtain ⟨t, ht, hs⟩ := h
  obtain ⟨t', ht', hs'⟩ := h'
  refine ⟨tAnd t t', fun X L => pw_and (ht X L) (ht' X L), fun ρ S σ g Q st h => hs ρ S σ g _ st (postG_bind h fun b ρ1 S1 v g1 _ st1 le1 r1 h1 => ?_)⟩
  subst r1
  cases v with
  | true => exact hs' ρ1 S1 σ g1 Q st1 h1
  | false => exact h1 false g1 st1 (GLe.refl _ _) rfl
theorem dw_or {m n : M Bool} (h : DT C a m) (h' : DW C (.BoolOp .Or (b :: rest) pos) n) : DW C (.BoolOp .Or (a :: b :: rest) pos) (mOr m n) := by
  obtain ⟨t, ht, hs⟩ := h
  obtain ⟨t', ht', hs'⟩ := h'
  refine ⟨tOr t t', fun X L => pw_or (ht X L) (ht' X L), fun ρ S σ g Q st h => hs ρ S σ g _ st (postG_bind h fun b ρ1 S1 v g1 _ st1 le1 r1 h1 => ?_)⟩
  subst r1
  cases v with
  | true => exact h1 true g1 st1 (GLe.refl _ _) rfl
  | false => exact hs' ρ1 S1 σ g1 Q st1 h1
/-- a value's truth -/
theorem dTru_rn {ρ : Env} {S : Store} {σ : L2.St} {g : Gs} (st : Stt C ρ S σ g) {d : D} {v : V} {k : Bool} (h : RN C.K g d v) (e : dTru d = some k) : TruV C.K v g.H k := by
  have hs : sizeLine = SZ := SZ_eq
  have emp : ∀ {xs : List D} {vs : List V}, Rs C.K g.F g.A xs vs → (!xs.isEmpty) = !vs.isEmpty := fun {xs vs} h => by
    have := Rs_len h
    cases xs with
    | nil => cases vs with
      | nil => rfl
      | cons _ _ => simp at this
    | cons _ _ => cases vs with
      | nil => simp at this
      | cons _ _ => rfl
  cases d with
  | non => rw [RN_non] at h; subst h; cases e; rfl
  | bl b => rw [RN_bl] at h; subst h; cases e; rfl
  | int i => rw [RN_int] at h; subst h; cases e; rfl
  | str s =>
    rw [RN_str] at h; subst h
    have e' : (if s.length ≤ SZ then some ((s.length : Int) != 0) else none) = some k := e
    split at e'
    · cases e'
      refine ⟨by rw [mkS_len, hs]; assumption, by rw [mkS_len]⟩
    · cases e'
  | tup xs =>
    obtain ⟨a, vs, rfl, h1, h2⟩ := RN_tup.mp h
    cases e
    exact .inr (.inl ⟨vs, st.wd.sub.t h1, emp h2⟩)
  | lst xs =>
    obtain ⟨a, vs, rfl, h1, h2⟩ := h
    cases e
    exact .inl ⟨vs, SqL.of h1, emp h2⟩
  | rol xs =>
    obtain ⟨a, vs, rfl, h1, h2⟩ := RN_rol.mp h
    cases e
    exact .inl ⟨vs, st.wd.sub.l h1, emp h2⟩
  | dic ks xs =>
    obtain ⟨a, vs, rfl, h1, h2, h3⟩ := h
    cases e
    refine .inr (.inr ⟨vs, h1, ?_⟩)
    have := congrArg List.length h2
    simp at this
    cases ks with
    | nil => cases vs with
      | nil => rfl
      | cons _ _ => simp at this
    | cons _ _ => cases vs with
      | nil => simp at this
      | cons _ _ => rfl
  | cel n => cases e
  | typ n => cases e
theorem dt_truth {m : M Pk} (h : DK C a m) (he : ∀ (X : Cx) (whole : Sem Value), isTrue a X.env whole = (do let v ← whole; standAt a.pos; holding [v] (truthy v)) := by intros; rfl) : DT C a (mTru m) := by
  obtain ⟨t, ht, hs⟩ := h
  refine ⟨fun σ H Q => t σ H fun x H' => ∃ k, TruV C.K x H' k ∧ Q k H', fun X L => ?_, fun ρ S σ g Q st h => hs ρ S σ g _ st (postG_bind h fun p ρ1 S1 v g1 _ st1 le1 r1 h1 => ?_)⟩
  · have := pt_truth (ht X L) (he X)
    rw [L.K] at this
    exact this
  · obtain ⟨d, e1, h2⟩ := look_post h1
    obtain ⟨k, e2, h3⟩ := opt_post h2
    exact ⟨k, dTru_rn st1 (pk_get st1 r1 e1) e2, h3 k g1 st1 (GLe.refl _ _) rfl⟩
theorem dBl_r {K : PySem.W.Frag} {F : Hp} {A : List Addr} {d : D} {v : V} {k : Bool} (h : R K F A d v) (e : dBl d = some k) : v = .bl k := by
  cases d with
  | bl b => rw [R_bl] at h; cases e; exact h
  | _ => cases e
theorem dt_val {m : M D} (h : DE C a m) (he : ∀ (X : Cx) (whole : Sem Value), isTrue a X.env whole = (do let v ← whole; standAt a.pos; holding [v] (truthy v)) := by intros; rfl) : DT C a (mBl m) := by
  obtain ⟨t, ht, hs⟩ := h
  refine ⟨tB t, fun X L => pt_val (ht X L) (he X), fun ρ S σ g Q st h => hs ρ S σ g _ st (postG_bind h fun d ρ1 S1 v g1 _ st1 le1 r1 h1 => ?_)⟩
  obtain ⟨k, e2, h3⟩ := opt_post h1
  exact ⟨k, dBl_r r1 e2, h3 k g1 st1 (GLe.refl _ _) rfl⟩

/-! ### and, or, not as values (of truth values) -/
def mAndV (m n : M D) : M D := (mBl m).bind fun b => if b = true then n else M.ret (.bl false)
def mOrV (m n : M D) : M D := (mBl m).bind fun b => if b = true then M.ret (.bl true) else n
theorem bl_post {m : M D} {n : Bool → M D} {ρ : Env} {S : Store} {σ : L2.St} {g : Gs} {Q : VK} {t : TE} {Qa : Bool → Hp → Prop}
    (hs : ∀ ρ S σ g Q, Stt C ρ S σ g → PostG C g σ (fun _ g d v => R C.K g.F g.A d v) (m ρ S) Q → t σ g.H Q) (st : Stt C ρ S σ g)
    (h : PostG C g σ (fun _ g d v => R C.K g.F g.A d v) (((mBl m).bind n) ρ S) Q)
    (k : ∀ b ρ1 S1 g1, Stt C ρ1 S1 σ g1 → GLe C g g1 → PostG C g1 σ (fun _ g d v => R C.K g.F g.A d v) (n b ρ1 S1) Q → Qa b g1.H) : t σ g.H fun x H1 => ∃ c, x = .bl c ∧ Qa c H1 := by
  unfold mBl at h
  rw [M.bind_assoc] at h
  refine hs ρ S σ g _ st (postG_bind h fun d ρ1 S1 v g1 _ st1 le1 r1 h1 => ?_)
  cases e : dBl d with
  | none =>
    unfold M.bind at h1
    rw [e] at h1
    exact h1.elim
  | some b =>
    unfold M.bind at h1
    rw [e] at h1
    exact ⟨b, dBl_r r1 e, k b ρ1 S1 g1 st1 le1 h1⟩
theorem de_one {op} {m : M D} (h : DE C a m) : DE C (.BoolOp op [a] pos) m := by
  obtain ⟨t, ht, hs⟩ := h
  exact ⟨t, fun X L => pe_one (ht X L), hs⟩
theorem de_and {m n : M D} (h : DE C a m) (h' : DE C (.BoolOp .And (b :: rest) pos) n) : DE C (.BoolOp .And (a :: b :: rest) pos) (mAndV m n) := by
  obtain ⟨t, ht, hs⟩ := h
  obtain ⟨t', ht', hs'⟩ := h'
  refine ⟨tAndV t t', fun X L => pe_and (ht X L) (ht' X L), fun ρ S σ g Q st h => bl_post hs st h fun b ρ1 S1 g1 st1 le1 h1 => ?_⟩
  cases b with
  | true => exact hs' ρ1 S1 σ g1 Q st1 h1
  | false => exact h1 _ g1 st1 (GLe.refl _ _) dB
theorem de_or {m n : M D} (h : DE C a m) (h' : DE C (.BoolOp .Or (b :: rest) pos) n) : DE C (.BoolOp .Or (a :: b :: rest) pos) (mOrV m n) := by
  obtain ⟨t, ht, hs⟩ := h
  obtain ⟨t', ht', hs'⟩ := h'
  refine ⟨tOrV t t', fun X L => pe_or (ht X L) (ht' X L), fun ρ S σ g Q st h => bl_post hs st h fun b ρ1 S1 g1 st1 le1 h1 => ?_⟩
  cases b with
  | true => exact h1 _ g1 st1 (GLe.refl _ _) dB
  | false => exact hs' ρ1 S1 σ g1 Q st1 h1
def mNotV (m : M D) : M D := (mBl m).bind fun b => M.ret (.bl (!b))
theorem de_not {m : M D} (h : DE C a m) : DE C (.UnaryOp .Not a pos) (mNotV m) := by
  obtain ⟨t, ht, hs⟩ := h
  exact ⟨tNotV t, fun X L => pe_not (ht X L), fun ρ S σ g Q st h => bl_post hs st h fun b ρ1 S1 g1 st1 le1 h1 => h1 _ g1 st1 (GLe.refl _ _) dB⟩

/-! ### a if t else b -/
theorem if_core {α β : Type} {Rel : L2.St → Gs → Gs → α → β → Prop} (hm : ∀ σ g g1 g' c d, GLe C g g1 → Rel σ g1 g' c d → Rel σ g g' c d) {m : M Bool} {n n' : M α} {tc : TT}
    (hc : ∀ ρ S σ g Q, Stt C ρ S σ g → PostG C g σ (fun _ _ b v => v = b) (m ρ S) Q → tc σ g.H Q) {ρ : Env} {S : Store} {σ : L2.St} {g : Gs} {Q : β → Hp → Prop} (st : Stt C ρ S σ g) (h : PostG C g σ (Rel σ) (mIf m n n' ρ S) Q) {Qb : Bool → Hp → Prop}
    (k1 : ∀ ρ1 S1 g1, Stt C ρ1 S1 σ g1 → PostG C g1 σ (Rel σ) (n ρ1 S1) Q → Qb true g1.H) (k2 : ∀ ρ1 S1 g1, Stt C ρ1 S1 σ g1 → PostG C g1 σ (Rel σ) (n' ρ1 S1) Q → Qb false g1.H) : tc σ g.H Qb :=
  hc ρ S σ g _ st (postG_bind h (fun b ρ1 S1 v g1 _ st1 le1 r1 h1 => by
    subst r1
    cases v with
    | true => exact k1 ρ1 S1 g1 st1 h1
    | false => exact k2 ρ1 S1 g1 st1 h1) (hm σ))
theorem de_if {m : M Bool} {n n' : M D} (hc : DT C c m) (ha : DE C a n) (hb : DE C b n') : DE C (.IfExp c a b pos) (mIf m n n') := by
  obtain ⟨tc, hc, sc⟩ := hc
  obtain ⟨ta, ha, sa⟩ := ha
  obtain ⟨tb, hb, sb⟩ := hb
  exact ⟨tIf tc ta tb, fun X L => pe_ifExp (hc X L) (ha X L) (hb X L), fun ρ S σ g Q st h => if_core (Rel := fun _ _ g d v => R C.K g.F g.A d v) (fun _ _ _ _ _ _ _ h => h) sc st h (fun ρ1 S1 g1 st1 h1 => sa ρ1 S1 σ g1 Q st1 h1) fun ρ1 S1 g1 st1 h1 => sb ρ1 S1 σ g1 Q st1 h1⟩
theorem do_if {m : M Bool} {n n' : M RV} (hc : DT C c m) (ha : DO C a n) (hb : DO C b n') : DO C (.IfExp c a b pos) (mIf m n n') := by
  obtain ⟨tc, hc, sc⟩ := hc
  obtain ⟨ta, ha, sa⟩ := ha
  obtain ⟨tb, hb, sb⟩ := hb
  exact ⟨tIf tc ta tb, fun X L => pe_ifExp (hc X L) (ha X L) (hb X L), fun ρ S σ g Q st h => if_core (Rel := fun _ => RVR C) (fun _ => rvr_mono) sc st h (fun ρ1 S1 g1 st1 h1 => sa ρ1 S1 σ g1 Q st1 h1) fun ρ1 S1 g1 st1 h1 => sb ρ1 S1 σ g1 Q st1 h1⟩

/-! ### a < b < c -/
def mChain (f f' : D → D → Option Bool) (ma mb mc : M Pk) : M Bool := ma.bind fun p => mb.bind fun q => (M.look p fun x => M.look q fun y => M.opt (f x y)).bind fun k => if k = true then mc.bind fun r => M.look q fun y => M.look r fun z => M.opt (f' y z) else M.ret false
theorem chain_core {r r' : R2} {f f' : D → D → Option Bool} (ho : CmS C r f) (ho' : CmS C r' f') {ma mb mc : M Pk} {ta tb tc : TE}
    (sa : ∀ ρ S σ g Q, Stt C ρ S σ g → PostG C g σ (fun _ => PkR C.K σ) (ma ρ S) Q → ta σ g.H Q)
    (sb : ∀ ρ S σ g Q, Stt C ρ S σ g → PostG C g σ (fun _ => PkR C.K σ) (mb ρ S) Q → tb σ g.H Q)
    (sc : ∀ ρ S σ g Q, Stt C ρ S σ g → PostG C g σ (fun _ => PkR C.K σ) (mc ρ S) Q → tc σ g.H Q) :
    ∀ ρ S σ g (Q : VK), Stt C ρ S σ g → PostG C g σ (fun _ _ b v => v = V.bl b) (mChain f f' ma mb mc ρ S) Q → tChain r r' ta tb tc σ g.H Q := fun ρ S σ g Q st h =>
  sa ρ S σ g _ st (postG_bind h fun p ρ1 S1 v g1 _ st1 le1 r1 h1 => sb ρ1 S1 σ g1 _ st1 (postG_bind h1 fun q ρ2 S2 u g2 _ st2 le2 r2 h2 => by
    unfold M.bind M.look at h2
    cases ex : p.get ρ2 S2 with
    | none => rw [ex] at h2; exact h2.elim
    | some x =>
      rw [ex] at h2
      dsimp only at h2
      cases ey : q.get ρ2 S2 with
      | none => rw [ey] at h2; exact h2.elim
      | some y =>
        rw [ey] at h2
        dsimp only at h2
        cases e : f x y with
        | none =>
          rw [e] at h2
          exact h2.elim
        | some k =>
          rw [e] at h2
          refine ho ρ2 S2 σ g2 x y v u k _ st2 (pk_get st2 (pk_mono le2 r1) ex) (pk_get st2 r2 ey) e ⟨k, rfl, ?_⟩
          cases k with
          | false =>
            rw [if_neg Bool.false_ne_true]
            exact h2 (.bl false) g2 st2 (GLe.refl _ _) rfl
          | true =>
            rw [if_pos rfl]
            refine sc ρ2 S2 σ g2 _ st2 (postG_bind (Rel' := fun _ _ b v => v = V.bl b) h2 fun s ρ3 S3 w g3 _ st3 le3 r3 h3 => ?_)
            have h3' : PostG C g3 σ (fun _ _ b v => v = V.bl b) (M.look q (fun y => M.look s fun z => M.opt (f' y z)) ρ3 S3) Q := h3
            obtain ⟨y', ey', h4⟩ := look_post h3'
            obtain ⟨z, ez, h5⟩ := look_post h4
            obtain ⟨b, e5, h6⟩ := opt_post h5
            exact ho' ρ3 S3 σ g3 y' z u w b Q st3 (pk_get st3 (pk_mono le3 r2) ey') (pk_get st3 r3 ez) e5 (h6 (.bl b) g3 st3 (GLe.refl _ _) rfl)))
theorem dt_chain {op op' : CmpOp} {r r' : R2} {f f' : D → D → Option Bool} {ma mb mc : M Pk} (hr : ∀ X, Lc C X → OpR X (compareOp op) r) (hr' : ∀ X, Lc C X → OpR X (compareOp op') r') (ho : CmS C r f) (ho' : CmS C r' f')
    (ha : DK C a ma) (hb : DK C b mb) (hc : DK C c mc) (hm : lastMarks [op, op'] [b, c] = false := by rfl) : DT C (.Compare a [op, op'] [b, c] pos) (mChain f f' ma mb mc) := by
  obtain ⟨ta, ha, sa⟩ := ha
  obtain ⟨tb, hb, sb⟩ := hb
  obtain ⟨tc, hc, sc⟩ := hc
  refine ⟨tTest (tChain r r' ta tb tc), fun X L => pt_chain (hr X L) (hr' X L) (ha X L) (hb X L) (hc X L) hm, fun ρ S σ g Q st h => chain_core ho ho' sa sb sc ρ S σ g _ st ?_⟩
  revert h
  generalize mChain f f' ma mb mc ρ S = o
  cases o with
  | ok b ρ1 S1 => exact fun h v g1 st1 le1 e => ⟨b, e, h b g1 st1 le1 rfl⟩
  | exc x ρ1 S1 => exact fun h => h
  | bad => exact fun h => h
theorem de_chain {op op' : CmpOp} {r r' : R2} {f f' : D → D → Option Bool} {ma mb mc : M Pk} (hr : ∀ X, Lc C X → OpR X (compareOp op) r) (hr' : ∀ X, Lc C X → OpR X (compareOp op') r') (ho : CmS C r f) (ho' : CmS C r' f')
    (ha : DK C a ma) (hb : DK C b mb) (hc : DK C c mc) (hm : lastMarks [op, op'] [b, c] = false := by rfl) : DE C (.Compare a [op, op'] [b, c] pos) (mB (mChain f f' ma mb mc)) := by
  obtain ⟨ta, ha, sa⟩ := ha
  obtain ⟨tb, hb, sb⟩ := hb
  obtain ⟨tc, hc, sc⟩ := hc
  refine ⟨tChain r r' ta tb tc, fun X L => pe_chain (hr X L) (hr' X L) (ha X L) (hb X L) (hc X L) hm, fun ρ S σ g Q st h => chain_core ho ho' sa sb sc ρ S σ g _ st ?_⟩
  revert h
  unfold mB M.bind
  generalize mChain f f' ma mb mc ρ S = o
  cases o with
  | ok b ρ1 S1 => exact fun h v g1 st1 le1 e => h v g1 st1 le1 (by rw [e]; exact dB)
  | exc x ρ1 S1 => exact fun h => h
  | bad => exact fun h => h
end

/-! ### arguments, displays -/
def mNil : M (List D) := M.ret []
def mCons (m : M D) (n : M (List D)) : M (List D) := m.bind fun x => n.bind fun xs => M.ret (x :: xs)
def mTup (m : M (List D)) : M D := m.bind fun xs => if xs.length ≤ SZ then M.ret (.tup xs) else fun _ _ => .bad
def mLst (m : M (List D)) : M RV := m.bind fun xs => if xs.length ≤ SZ then M.ret (.own xs) else fun _ _ => .bad
section
variable {C : Ctx} {e a b c : Expr} {es : List Expr} {pos : Pos} {rest : List Expr}
theorem da_nil : DA C [] mNil := ⟨tNil, fun X L => pa_nil, fun ρ S σ g Q st h => h [] g st (GLe.refl _ _) (Rs_nil.mpr rfl)⟩
theorem da_cons {m : M D} {n : M (List D)} (h : DE C e m) (h' : DA C es n) (hs : ∀ X : Cx, starEach (e :: es) X.env = (false, eval e X.env) :: starEach es X.env := by intros; rfl) : DA C (e :: es) (mCons m n) := by
  obtain ⟨t, ht, s1⟩ := h
  obtain ⟨t', ht', s2⟩ := h'
  exact ⟨tCons t t', fun X L => pa_cons (ht X L) (ht' X L) (hs X), fun ρ S σ g Q st h => s1 ρ S σ g _ st (postG_bind h fun d ρ1 S1 v g1 _ st1 le1 r1 h1 => s2 ρ1 S1 σ g1 _ st1 (postG_bind h1 fun ds ρ2 S2 vs g2 _ st2 le2 r2 h2 =>
    h2 (v :: vs) g2 st2 (GLe.refl _ _) (Rs_cons.mpr ⟨v, vs, rfl, R_mono le2.le _ _ r1, r2⟩)))⟩
theorem ite_post {α β : Type} {c : Prop} [Decidable c] {m : M α} {ρ : Env} {S : Store} {σ : L2.St} {g : Gs} {Rel : Gs → Gs → α → β → Prop} {Q : β → Hp → Prop} (h : PostG C g σ Rel ((if c then m else fun _ _ => .bad : M α) ρ S) Q) : c ∧ PostG C g σ Rel (m ρ S) Q := by
  by_cases hc : c
  · rw [if_pos hc] at h; exact ⟨hc, h⟩
  · rw [if_neg hc] at h; exact h.elim
theorem de_tup {m : M (List D)} {k} (h : DA C es m) : DE C (.Tuple es k pos) (mTup m) := by
  obtain ⟨t, ht, hs⟩ := h
  refine ⟨tTup t, fun X L => pe_tup (ht X L), fun ρ S σ g Q st h => hs ρ S σ g _ st (postG_bind h fun ds ρ1 S1 vs g1 _ st1 le1 r1 h1 => ?_)⟩
  obtain ⟨hz, h2⟩ := ite_post h1
  exact ⟨by rw [← Rs_len r1, SZ_eq]; exact hz, fun p hp => h2 (.ref p) (g1.up p (.tup vs)) (st1.grow hp) (st1.le_up hp) (tup_new st1 hp r1)⟩
theorem do_lst {m : M (List D)} (h : DA C es m) : DO C (.List es pos) (mLst m) := by
  obtain ⟨t, ht, hs⟩ := h
  refine ⟨tLst t, fun X L => pe_lst (ht X L), fun ρ S σ g Q st h => hs ρ S σ g _ st (postG_bind h fun ds ρ1 S1 vs g1 _ st1 le1 r1 h1 => ?_)⟩
  obtain ⟨hz, h2⟩ := ite_post h1
  exact ⟨by rw [← Rs_len r1, SZ_eq]; exact hz, fun p hp => h2 (.ref p) (g1.pv p (.lst vs)) (st1.priv hp) (Stt.le_pv hp) (own_new st1 hp r1)⟩
end
end Thr
namespace Thr
open PySem PySem.Spec PyProof.Rows L2

/-! ### subscripts -/
def atD {α : Type} (xs : List α) (i : Int) : Option α := if 0 ≤ i then xs[i.toNat]? else if -(xs.length : Int) ≤ i then xs[(i + xs.length).toNat]? else none
theorem atI_D {α : Type} {xs : List α} {i : Int} {x : α} (h : atD xs i = some x) : atI xs i = some x := by
  unfold atD at h
  unfold atI ixN
  split at h
  · rename_i h0
    have hl := (List.getElem?_eq_some_iff.mp h).1
    rw [if_pos h0, if_pos (by omega)]
    exact h
  · rename_i h0
    split at h
    · rename_i h1
      rw [if_neg h0, if_pos h1]
      exact h
    · cases h
theorem atD_Rs {K : PySem.W.Frag} {F : Hp} {A : List Addr} {xs : List D} {vs : List V} {i : Int} {d : D} (h : Rs K F A xs vs) (e : atD xs i = some d) : ∃ v, atI vs i = some v ∧ R K F A d v := by
  have hl := Rs_len h
  unfold atD at e
  split at e
  · rename_i h0
    obtain ⟨v, e1, r⟩ := Rs_get h e
    exact ⟨v, atI_D (by unfold atD; rw [if_pos h0]; exact e1), r⟩
  · rename_i h0
    split at e
    · rename_i h1
      rw [hl] at e
      obtain ⟨v, e1, r⟩ := Rs_get h e
      exact ⟨v, atI_D (by unfold atD; rw [if_neg h0, if_pos (by rw [← hl]; exact h1)]; exact e1), r⟩
    · cases e
def dIx : D → D → Option D
  | .str s, .int i => if s.length ≤ SZ then (atD s i).map fun c => .str [c] else none
  | .lst xs, .int i => atD xs i
  | .rol xs, .int i => atD xs i
  | .tup xs, .int i => atD xs i
  | _, _ => none
/-- an operation that gives a value as it stands -/
def VS (C : Ctx) (r : R2) (f : D → D → Option D) : Prop :=
  ∀ ρ S σ g x y v u d Q, Stt C ρ S σ g → RN C.K g x v → RN C.K g y u → f x y = some d → (∀ w, R C.K g.F g.A d w → Q w g.H) → r v u g.H Q
def mOpV (f : D → D → Option D) (ma mb : M Pk) : M D := ma.bind fun p => mb.bind fun q => M.look p fun x => M.look q fun y => M.opt (f x y)
section
variable {C : Ctx} {e a b c : Expr} {es : List Expr} {pos : Pos} {rest : List Expr}
theorem opV_core {r : R2} {f : D → D → Option D} (ho : VS C r f) {ma mb : M Pk} {ta tb : TE}
    (sa : ∀ ρ S σ g Q, Stt C ρ S σ g → PostG C g σ (fun _ => PkR C.K σ) (ma ρ S) Q → ta σ g.H Q)
    (sb : ∀ ρ S σ g Q, Stt C ρ S σ g → PostG C g σ (fun _ => PkR C.K σ) (mb ρ S) Q → tb σ g.H Q) :
    ∀ ρ S σ g Q, Stt C ρ S σ g → PostG C g σ (fun _ g d v => R C.K g.F g.A d v) (mOpV f ma mb ρ S) Q → tOp r ta tb σ g.H Q := fun ρ S σ g Q st h =>
  sa ρ S σ g _ st (postG_bind h fun p ρ1 S1 v g1 _ st1 le1 r1 h1 => sb ρ1 S1 σ g1 _ st1 (postG_bind h1 fun q ρ2 S2 u g2 _ st2 le2 r2 h2 => by
    obtain ⟨x, ex, h3⟩ := look_post h2
    obtain ⟨y, ey, h4⟩ := look_post h3
    obtain ⟨d, e, h5⟩ := opt_post h4
    exact ho ρ2 S2 σ g2 x y v u d Q st2 (pk_get st2 (pk_mono le2 r1) ex) (pk_get st2 r2 ey) e fun w rr => h5 w g2 st2 (GLe.refl _ _) rr))
theorem vs_ix : VS C (rIx C.K) dIx := by
  intro ρ S σ g x y v u d Q st rx ry e k
  unfold dIx at e
  split at e
  · split at e
    · rename_i s i hz
      rw [RN_str] at rx; rw [RN_int] at ry; subst rx ry
      cases e1 : atD s i with
      | none => rw [e1] at e; cases e
      | some c =>
        rw [e1] at e; cases e
        refine .inr (.inr ⟨_, _, c, rfl, rfl, by rw [mkS_len, SZ_eq]; exact hz, by rw [mkS_toList]; exact atI_D e1, ?_⟩)
        exact k _ dS
    · cases e
  · rename_i xs i
    obtain ⟨a, vs, rfl, h1, h2⟩ := rx
    rw [RN_int] at ry; subst ry
    obtain ⟨w, e2, r2⟩ := atD_Rs h2 e
    exact .inl ⟨a, vs, i, w, rfl, rfl, SqL.of h1, e2, k w r2⟩
  · rename_i xs i
    obtain ⟨a, vs, rfl, h1, h2⟩ := RN_rol.mp rx
    rw [RN_int] at ry; subst ry
    obtain ⟨w, e2, r2⟩ := atD_Rs h2 e
    exact .inl ⟨a, vs, i, w, rfl, rfl, st.wd.sub.l h1, e2, k w r2⟩
  · rename_i xs i
    obtain ⟨a, vs, rfl, h1, h2⟩ := RN_tup.mp rx
    rw [RN_int] at ry; subst ry
    obtain ⟨w, e2, r2⟩ := atD_Rs h2 e
    exact .inr (.inl ⟨a, vs, i, w, rfl, rfl, st.wd.sub.t h1, e2, k w r2⟩)
  · cases e
theorem de_ix {ma mb : M Pk} (ha : DK C a ma) (hb : DK C b mb) (hs : PlainIx b := by intros _ _; rfl) : DE C (.Subscript a b pos) (mOpV dIx ma mb) := by
  obtain ⟨ta, ha, sa⟩ := ha
  obtain ⟨tb, hb, sb⟩ := hb
  refine ⟨tOp (rIx C.K) ta tb, fun X L => ?_, opV_core vs_ix sa sb⟩
  have := pe_ix (pos := pos) (ix_seq (X := X)) (ha X L) (hb X L) hs
  rw [L.K] at this
  exact this

/-! ### slices -/
def dCut {α : Type} (xs : List α) (lo hi : Option Int) : List α := (xs.drop (HT.sIx xs.length 0 lo)).take (HT.sIx xs.length xs.length hi - HT.sIx xs.length 0 lo)
def dSl : D → Option Int → Option Int → Option RV
  | .str s, lo, hi => if s.length ≤ SZ then some (.val (.str (dCut s lo hi))) else none
  | .lst xs, lo, hi => some (.own (dCut xs lo hi))
  | .rol xs, lo, hi => some (.own (dCut xs lo hi))
  | .tup xs, lo, hi => some (.val (.tup (dCut xs lo hi)))
  | _, _, _ => none
def DP (C : Ctx) (e : Option Expr) (m : M (Option Int)) : Prop :=
  ∃ t, (∀ X, Lc C X → PO X e t) ∧ ∀ ρ S σ g (Q : Option Int → Hp → Prop), Stt C ρ S σ g → PostG C g σ (fun _ _ b v => v = b) (m ρ S) Q → t σ g.H Q
def dInt : D → Option Int
  | .int i => some i
  | _ => none
def mPart (m : M D) : M (Option Int) := m.bind fun d => (M.opt (dInt d)).bind fun i => M.ret (some i)
def mNoP : M (Option Int) := M.ret none
theorem dp_none : DP C none mNoP := ⟨tNoPart, fun X L => po_none, fun ρ S σ g Q st h => h none g st (GLe.refl _ _) rfl⟩
theorem dp_some {m : M D} (h : DE C e m) : DP C (some e) (mPart m) := by
  obtain ⟨t, ht, hs⟩ := h
  refine ⟨tPart t, fun X L => po_some (ht X L), fun ρ S σ g Q st h => hs ρ S σ g _ st (postG_bind h fun d ρ1 S1 v g1 _ st1 le1 r1 h1 => ?_)⟩
  cases d with
  | int i =>
    rw [R_int] at r1; subst r1
    exact ⟨i, rfl, h1 (some i) g1 st1 (GLe.refl _ _) rfl⟩
  | _ => exact h1.elim
def mSl (m : M Pk) (ml mh : M (Option Int)) : M RV := m.bind fun p => ml.bind fun lo => mh.bind fun hi => M.look p fun x => M.opt (dSl x lo hi)
abbrev rSl3 (K : PySem.W.Frag) : V → Option Int → Option Int → Hp → VK → Prop := fun x lo hi H Q => rSlS x lo hi H Q ∨ rSlL K x lo hi H Q ∨ rSlA K x lo hi H Q
theorem Rs_cut {K : PySem.W.Frag} {F : Hp} {A : List Addr} {xs : List D} {vs : List V} (h : Rs K F A xs vs) (lo hi : Option Int) : Rs K F A (dCut xs lo hi) (cutV vs lo hi) := by
  unfold dCut cutV
  rw [Rs_len h]
  exact Rs_take _ (Rs_drop _ h)
theorem cutS_mk (s : List Nat) (lo hi : Option Int) : cutS (mkS s) lo hi = mkS (dCut s lo hi) := by
  unfold cutS dCut
  rw [mkS_toList, mkS_len]
theorem cut_all {α : Type} (xs : List α) {lo hi : Option Int} (h : HT.sIx xs.length 0 lo = 0 ∧ HT.sIx xs.length xs.length hi = xs.length) : dCut xs lo hi = xs := by
  unfold dCut
  rw [h.1, h.2]
  simp
theorem sl_core {x : D} {v : V} {lo hi : Option Int} {rv : RV} {ρ : Env} {S : Store} {σ : L2.St} {g : Gs} {Q : VK} (st : Stt C ρ S σ g) (rx : RN C.K g x v) (e : dSl x lo hi = some rv) (k : ∀ w g', Stt C ρ S σ g' → GLe C g g' → RVR C g g' rv w → Q w g'.H) : rSl3 C.K v lo hi g.H Q := by
  unfold dSl at e
  split at e
  · split at e
    · cases e
      rename_i hz
      rw [RN_str] at rx; subst rx
      refine .inl ⟨_, rfl, by rw [mkS_len, SZ_eq]; exact hz, ?_⟩
      rw [cutS_mk]
      exact k _ g st (GLe.refl _ _) vS
    · cases e
  · cases e
    obtain ⟨a, vs, rfl, h1, h2⟩ := rx
    exact .inr (.inl ⟨a, vs, rfl, SqL.of h1, fun p hp => k _ (g.pv p _) (st.priv hp) (Stt.le_pv hp) (own_new st hp (Rs_cut h2 _ _))⟩)
  · cases e
    obtain ⟨a, vs, rfl, h1, h2⟩ := RN_rol.mp rx
    exact .inr (.inl ⟨a, vs, rfl, st.wd.sub.l h1, fun p hp => k _ (g.pv p _) (st.priv hp) (Stt.le_pv hp) (own_new st hp (Rs_cut h2 _ _))⟩)
  · cases e
    obtain ⟨a, vs, rfl, h1, h2⟩ := RN_tup.mp rx
    refine .inr (.inr ⟨a, vs, rfl, st.wd.sub.t h1, fun hc => ?_, fun hc p hp => k _ (g.up p _) (st.grow hp) (st.le_up hp) (tup_new st hp (Rs_cut h2 _ _))⟩)
    rw [← Rs_len h2] at hc
    rw [cut_all _ hc] at k
    exact k _ g st (GLe.refl _ _) rx
  · cases e
theorem do_sl {m : M Pk} {ml mh : M (Option Int)} {lo hi : Option Expr} {p2 : Pos} (ha : DK C a m) (hl : DP C lo ml) (hh : DP C hi mh) : DO C (.Subscript a (.Slice lo hi none p2) pos) (mSl m ml mh) := by
  obtain ⟨ta, ha, sa⟩ := ha
  obtain ⟨tl, hl, sl⟩ := hl
  obtain ⟨th, hh, sh⟩ := hh
  refine ⟨tSl (rSl3 C.K) ta tl th, fun X L => ?_, fun ρ S σ g Q st h => sa ρ S σ g _ st (postG_bind h fun p ρ1 S1 v g1 _ st1 le1 r1 h1 => sl ρ1 S1 σ g1 _ st1 (postG_bind h1 fun l ρ2 S2 l' g2 _ st2 le2 r2 h2 => sh ρ2 S2 σ g2 _ st2 (postG_bind h2 fun u ρ3 S3 u' g3 _ st3 le3 r3 h3 => ?_)))⟩
  · have := pe_slice (pos := pos) (p2 := p2) ((sl_str (X := X)).or ((sl_list (X := X)).or (sl_tupA (X := X)))) (ha X L) (hl X L) (hh X L)
    rw [L.K] at this
    exact this
  · subst r2 r3
    obtain ⟨x, ex, h4⟩ := look_post h3
    obtain ⟨rv, e, h5⟩ := opt_post h4
    exact sl_core st3 (pk_get st3 (pk_mono (le2.trans le3) r1) ex) e fun w g' st' le' rr => h5 w g' st' le' rr

/-! ### in -/
def occ (y x : List Nat) : Bool := !(Builtin.Str.occurrences (mkS y) (mkS x) 0 (mkS y).length 1).isEmpty
def memD (x : D) : List D → Option Bool
  | [] => some false
  | y :: ys => match dEq y x, memD x ys with
    | some a, some b => some (a || b)
    | _, _ => none
def flatD : D → Bool
  | .non => true
  | .bl _ => true
  | .int _ => true
  | .str _ => true
  | _ => false
def eqF : D → D → Bool
  | .non, .non => true
  | .bl a, .bl b => a == b
  | .bl a, .int b => (if a then 1 else 0) == b
  | .int a, .bl b => a == (if b then 1 else 0)
  | .int a, .int b => a == b
  | .str a, .str b => a == b
  | _, _ => false
def seqOf : D → Option (List D)
  | .lst xs => some xs
  | .rol xs => some xs
  | .tup xs => some xs
  | _ => none
def inFlat (x : D) (xs : List D) : Option Bool := if (flatD x && xs.all flatD) = true then some (xs.any fun y => eqF y x) else none
def dIn : D → D → Option Bool
  | .str [c], .str s => some (decide (c ∈ s))
  | .str x, .str s => some (occ s x)
  | x, .lst ys => inFlat x ys
  | x, .rol ys => inFlat x ys
  | x, .tup ys => inFlat x ys
  | _, _ => none
theorem flat_rn {K : PySem.W.Frag} {F : Hp} {A : List Addr} {d : D} {v : V} (h : R K F A d v) (e : flatD d = true) : flatV v = true := by
  cases d with
  | non => rw [R_non] at h; subst h; rfl
  | bl b => rw [R_bl] at h; subst h; rfl
  | int b => rw [R_int] at h; subst h; rfl
  | str b => rw [R_str] at h; subst h; rfl
  | _ => cases e
theorem flat_rn' {K : PySem.W.Frag} {g : Gs} {d : D} {v : V} (h : RN K g d v) (e : flatD d = true) : R K g.F g.A d v := by
  cases d with
  | lst xs => cases e
  | dic ks xs => cases e
  | _ => exact h
theorem eqF_v {K : PySem.W.Frag} {F : Hp} {A : List Addr} {x y : D} {v u : V} (hx : R K F A x v) (hy : R K F A y u) (fx : flatD x = true) (fy : flatD y = true) : eqV v u = eqF x y := by
  have st : ∀ a b : List Nat, (mkS a == mkS b) = (a == b) := fun a b => by
    rw [Bool.eq_iff_iff, beq_iff_eq, beq_iff_eq]
    exact ⟨mkS_inj, fun h => by rw [h]⟩
  cases x with
  | non => rw [R_non] at hx; subst hx; cases y with
    | non => rw [R_non] at hy; subst hy; rfl
    | bl b => rw [R_bl] at hy; subst hy; rfl
    | int b => rw [R_int] at hy; subst hy; rfl
    | str b => rw [R_str] at hy; subst hy; rfl
    | _ => cases fy
  | bl c => rw [R_bl] at hx; subst hx; cases y with
    | non => rw [R_non] at hy; subst hy; rfl
    | bl b => rw [R_bl] at hy; subst hy; rfl
    | int b => rw [R_int] at hy; subst hy; rfl
    | str b => rw [R_str] at hy; subst hy; rfl
    | _ => cases fy
  | int c => rw [R_int] at hx; subst hx; cases y with
    | non => rw [R_non] at hy; subst hy; rfl
    | bl b => rw [R_bl] at hy; subst hy; rfl
    | int b => rw [R_int] at hy; subst hy; rfl
    | str b => rw [R_str] at hy; subst hy; rfl
    | _ => cases fy
  | str c => rw [R_str] at hx; subst hx; cases y with
    | non => rw [R_non] at hy; subst hy; rfl
    | bl b => rw [R_bl] at hy; subst hy; rfl
    | int b => rw [R_int] at hy; subst hy; rfl
    | str b => rw [R_str] at hy; subst hy; exact st c b
    | _ => cases fy
  | _ => cases fx
theorem inFlat_v {K : PySem.W.Frag} {g : Gs} {x : D} {v : V} {xs : List D} {vs : List V} {b : Bool} (hx : RN K g x v) (h : Rs K g.F g.A xs vs) (e : inFlat x xs = some b) : flatV v = true ∧ vs.all flatV = true ∧ inV v vs = b := by
  unfold inFlat at e
  split at e
  · rename_i hf
    rw [Bool.and_eq_true] at hf
    have hx' := flat_rn' hx hf.1
    have fv := flat_rn hx' hf.1
    have gen : ∀ (xs : List D) (vs : List V), Rs K g.F g.A xs vs → xs.all flatD = true → vs.all flatV = true ∧ inV v vs = xs.any fun y => eqF y x := by
      intro xs
      induction xs with
      | nil => intro vs h _; rw [Rs_nil] at h; subst h; exact ⟨rfl, rfl⟩
      | cons y ys ih =>
        intro vs h hf2
        obtain ⟨w, r, rfl, h1, h2⟩ := Rs_cons.mp h
        rw [List.all_cons, Bool.and_eq_true] at hf2
        obtain ⟨i1, i2⟩ := ih r h2 hf2.2
        refine ⟨by rw [List.all_cons, flat_rn h1 hf2.1, i1]; rfl, ?_⟩
        unfold inV at i2 ⊢
        rw [List.any_cons, List.any_cons, i2, eqF_v h1 hx' hf2.1 hf.1]
    obtain ⟨g1, g2⟩ := gen xs vs h hf.2
    cases e
    exact ⟨fv, g1, g2⟩
  · cases e
abbrev rIn4 (K : PySem.W.Frag) (neg : Bool) : R2 := fun x y H Q => (∃ (c : Nat) (z : Str), x = .str ⟨#[c]⟩ ∧ y = .str z ∧ Q (.bl (if neg then !decide (c ∈ z.cps.toList) else decide (c ∈ z.cps.toList))) H) ∨
  (∃ i j, x = .str i ∧ y = .str j ∧ Q (.bl (if neg then !(!(Builtin.Str.occurrences j i 0 j.length 1).isEmpty) else !(Builtin.Str.occurrences j i 0 j.length 1).isEmpty)) H) ∨ rIn K neg x y H Q
theorem hr_in : ∀ X, Lc C X → OpR X (compareOp .In) (rIn4 C.K false) := fun X L => by
  have h := (op_in_sign (X := X)).or ((op_in_str (X := X)).or (op_in_seq (X := X)))
  rw [L.K] at h
  exact h
theorem hr_notin : ∀ X, Lc C X → OpR X (compareOp .NotIn) (rIn4 C.K true) := fun X L => by
  have h := (op_notIn_sign (X := X)).or ((op_notin_str (X := X)).or (op_notIn_seq (X := X)))
  rw [L.K] at h
  exact h
def dNotIn (x y : D) : Option Bool := (dIn x y).map (!·)
theorem in_core {neg : Bool} : CmS C (rIn4 C.K neg) fun x y => (dIn x y).map fun b => if neg then !b else b := by
  intro ρ S σ g x y v u b Q st rx ry e q
  dsimp only at e
  cases e1 : dIn x y with
  | none => rw [e1] at e; cases e
  | some k =>
    rw [e1] at e
    cases e
    unfold dIn at e1
    split at e1
    · cases e1
      rw [RN_str] at rx ry; subst rx ry
      refine .inl ⟨_, _, rfl, rfl, ?_⟩
      rw [mkS_toList]
      exact q
    · cases e1
      rw [RN_str] at rx ry; subst rx ry
      exact .inr (.inl ⟨_, _, rfl, rfl, q⟩)
    · obtain ⟨a, vs, rfl, h1, h2⟩ := ry
      obtain ⟨f1, f2, f3⟩ := inFlat_v rx h2 e1
      exact .inr (.inr ⟨a, vs, rfl, .inl (SqL.of h1), f1, f2, by rw [f3]; exact q⟩)
    · obtain ⟨a, vs, rfl, h1, h2⟩ := RN_rol.mp ry
      obtain ⟨f1, f2, f3⟩ := inFlat_v rx h2 e1
      exact .inr (.inr ⟨a, vs, rfl, .inl (st.wd.sub.l h1), f1, f2, by rw [f3]; exact q⟩)
    · obtain ⟨a, vs, rfl, h1, h2⟩ := RN_tup.mp ry
      obtain ⟨f1, f2, f3⟩ := inFlat_v rx h2 e1
      exact .inr (.inr ⟨a, vs, rfl, .inr (st.wd.sub.t h1), f1, f2, by rw [f3]; exact q⟩)
    · cases e1
theorem cs_in : CmS C (rIn4 C.K false) dIn := (in_core (neg := false)).imp fun x y b h => by rw [h]; rfl
theorem cs_notin : CmS C (rIn4 C.K true) dNotIn := (in_core (neg := true)).imp fun x y b h => h
end
end Thr
namespace Thr
open PySem PySem.Spec PyProof.Rows L2

/-! ### operands in a row; calls of built-ins -/
def DKs (C : Ctx) (es : List Expr) (m : M (List Pk)) : Prop :=
  ∃ t, (∀ X, Lc C X → PA X es t) ∧ ∀ ρ S σ g Q, Stt C ρ S σ g → PostG C g σ (fun _ g ps vs => Paired (PkR C.K σ g) ps vs) (m ρ S) Q → t σ g.H Q
def mKNil : M (List Pk) := M.ret []
def mKCons (m : M Pk) (n : M (List Pk)) : M (List Pk) := m.bind fun x => n.bind fun xs => M.ret (x :: xs)
def Pk.gets (ρ : Env) (S : Store) : List Pk → Option (List D)
  | [] => some []
  | p :: ps => match p.get ρ S, Pk.gets ρ S ps with
    | some d, some ds => some (d :: ds)
    | _, _ => none
def M.looks {α : Type} (ps : List Pk) (f : List D → M α) : M α := fun ρ S => match Pk.gets ρ S ps with
  | some ds => f ds ρ S
  | none => .bad
def mCallB (f : List D → Option RV) (m : M (List Pk)) : M RV := m.bind fun ps => M.looks ps fun ds => M.opt (f ds)
def CallS (C : Ctx) (r : List V → Hp → VK → Prop) (f : List D → Option RV) : Prop :=
  ∀ ρ S σ g ds vs rv Q, Stt C ρ S σ g → Paired (RN C.K g) ds vs → f ds = some rv → (∀ w g', Stt C ρ S σ g' → GLe C g g' → RVR C g g' rv w → Q w g'.H) → r vs g.H Q
section
variable {C : Ctx} {e a b c : Expr} {es : List Expr} {pos p : Pos} {rest : List Expr} {x : Str} {id T : String}
theorem dks_nil : DKs C [] mKNil := ⟨tNil, fun X L => pa_nil, fun ρ S σ g Q st h => h [] g st (GLe.refl _ _) .nil⟩
theorem dks_cons {m : M Pk} {n : M (List Pk)} (h : DK C e m) (h' : DKs C es n) (hs : ∀ X : Cx, starEach (e :: es) X.env = (false, eval e X.env) :: starEach es X.env := by intros; rfl) : DKs C (e :: es) (mKCons m n) := by
  obtain ⟨t, ht, s1⟩ := h
  obtain ⟨t', ht', s2⟩ := h'
  exact ⟨tCons t t', fun X L => pa_cons (ht X L) (ht' X L) (hs X), fun ρ S σ g Q st h => s1 ρ S σ g _ st (postG_bind h fun d ρ1 S1 v g1 _ st1 le1 r1 h1 => s2 ρ1 S1 σ g1 _ st1 (postG_bind h1 fun ds ρ2 S2 vs g2 _ st2 le2 r2 h2 =>
    h2 (v :: vs) g2 st2 (GLe.refl _ _) (.cons (pk_mono le2 r1) r2)))⟩
theorem pks_get {ρ : Env} {S : Store} {σ : L2.St} {g : Gs} (st : Stt C ρ S σ g) : ∀ {ps : List Pk} {vs : List V} {ds : List D}, Paired (PkR C.K σ g) ps vs → Pk.gets ρ S ps = some ds → Paired (RN C.K g) ds vs
  | [], _, _, .nil, e => by cases e; exact .nil
  | q :: ps, _, ds, .cons r rs, e => by
    unfold Pk.gets at e
    cases e1 : q.get ρ S with
    | none => rw [e1] at e; cases e
    | some d =>
      cases e2 : Pk.gets ρ S ps with
      | none => rw [e1, e2] at e; cases e
      | some ds' =>
        rw [e1, e2] at e; cases e
        exact .cons (pk_get st r e1) (pks_get st rs e2)
theorem callB_core {r : List V → Hp → VK → Prop} {f : List D → Option RV} {m : M (List Pk)} {t : TA} (ho : CallS C r f)
    (hs : ∀ ρ S σ g Q, Stt C ρ S σ g → PostG C g σ (fun _ g ps vs => Paired (PkR C.K σ g) ps vs) (m ρ S) Q → t σ g.H Q) :
    ∀ ρ S σ g Q, Stt C ρ S σ g → PostG C g σ (RVR C) (mCallB f m ρ S) Q → tCB r t σ g.H Q := fun ρ S σ g Q st h =>
  hs ρ S σ g _ st (postG_bind h fun ps ρ1 S1 vs g1 _ st1 le1 r1 h1 => by
    unfold M.looks at h1
    cases e1 : Pk.gets ρ1 S1 ps with
    | none => rw [e1] at h1; exact h1.elim
    | some ds =>
      rw [e1] at h1
      obtain ⟨rv, e2, h2⟩ := opt_post h1
      exact ho ρ1 S1 σ g1 ds vs rv Q st1 (pks_get st1 r1 e1) e2 fun w g' st' le' rr => h2 w g' st' le' rr)
theorem do_callB {r : List V → Hp → VK → Prop} {f : List D → Option RV} {m : M (List Pk)} (hr : ∀ X, Lc C X → CallR X (.builtin id) r) (ho : CallS C r f) (hg : C.sc.names.lookup x = some .globalImplicit := by rfl) (hm : C.mg x = none) (hv : bootBuiltins x = some (.builtin id) := by decide +kernel) (ha : DKs C (e :: es) m)
    (hn : x ≠ "__name__" := by decide +kernel) (hdb : (x == ("__debug__" : Str)) = false := by decide +kernel) (he : ∀ X : Cx, starEach (e :: es) X.env = (false, eval e X.env) :: starEach es X.env := by intros; rfl) (hpl : ∀ X : Cx, (backTo pos (starEach es X.env)).any (·.1) = false := by intros; rfl) : DO C (.Call (.Name x p) (e :: es) [] pos) (mCallB f m) := by
  obtain ⟨t, ht, hs⟩ := ha
  exact ⟨tCB r t, fun X L => pe_callB (hr X L) (show X.env.scope.names.lookup x = some .globalImplicit by rw [L.sc]; exact hg) (by rw [L.mg]; exact hm) hv (ht X L) hn hdb (he X) (hpl X), callB_core ho hs⟩
theorem do_callTy {r : List V → Hp → VK → Prop} {f : List D → Option RV} {m : M (List Pk)} (hr : ∀ X, Lc C X → CallR X (.type T) r) (ho : CallS C r f) (hg : C.sc.names.lookup x = some .globalImplicit := by rfl) (hm : C.mg x = none) (hv : bootBuiltins x = some (.type T) := by decide +kernel) (ha : DKs C (e :: es) m)
    (hn : x ≠ "__name__" := by decide +kernel) (hdb : (x == ("__debug__" : Str)) = false := by decide +kernel) (he : ∀ X : Cx, starEach (e :: es) X.env = (false, eval e X.env) :: starEach es X.env := by intros; rfl) (hpl : ∀ X : Cx, (backTo pos (starEach es X.env)).any (·.1) = false := by intros; rfl) : DO C (.Call (.Name x p) (e :: es) [] pos) (mCallB f m) := by
  obtain ⟨t, ht, hs⟩ := ha
  exact ⟨tCB r t, fun X L => pe_callTy (hr X L) (show X.env.scope.names.lookup x = some .globalImplicit by rw [L.sc]; exact hg) (by rw [L.mg]; exact hm) hv (ht X L) hn hdb (he X) (hpl X), callB_core ho hs⟩
/-- a built-in class as a value -/
theorem de_typ {n : String} (hg : C.sc.names.lookup x = some .globalImplicit := by rfl) (hm : C.mg x = none) (hv : bootBuiltins x = some (.type n) := by decide +kernel) (hn : x ≠ "__name__" := by decide +kernel) (hdb : (x == ("__debug__" : Str)) = false := by decide +kernel) : DE C (.Name x pos) (mC (.typ n)) :=
  de_c (v := .ty n) (fun X L => pe_bltn (show X.env.scope.names.lookup x = some .globalImplicit by rw [L.sc]; exact hg) (by rw [L.mg]; exact hm) hv rfl hn hdb) fun _ _ => R_typ.mpr rfl

/-! ### the built-ins -/
theorem p1 {g : Gs} {d : D} {vs : List V} (h : Paired (RN C.K g) [d] vs) : ∃ v, vs = [v] ∧ RN C.K g d v := by
  cases h with
  | cons r t => cases t; exact ⟨_, rfl, r⟩
theorem p2 {g : Gs} {d d' : D} {vs : List V} (h : Paired (RN C.K g) [d, d'] vs) : ∃ v u, vs = [v, u] ∧ RN C.K g d v ∧ RN C.K g d' u := by
  cases h with
  | cons r t => cases t with
    | cons r' t' => cases t'; exact ⟨_, _, rfl, r, r'⟩
def fLen : List D → Option RV
  | [.str s] => if s.length ≤ SZ then some (.val (.int s.length)) else none
  | [.lst xs] => some (.val (.int xs.length))
  | [.rol xs] => some (.val (.int xs.length))
  | [.tup xs] => some (.val (.int xs.length))
  | [.dic ks _] => some (.val (.int ks.length))
  | _ => none
theorem rn_sq {ρ : Env} {S : Store} {σ : L2.St} {g : Gs} (st : Stt C ρ S σ g) {d : D} {xs : List D} {v : V} (h : RN C.K g d v) (e : seqOf d = some xs) : ∃ a vs, v = .ref a ∧ (SqL C.K g.H a vs ∨ SqT C.K g.H a vs) ∧ Rs C.K g.F g.A xs vs := by
  cases d with
  | lst ys =>
    cases e
    obtain ⟨a, vs, rfl, h1, h2⟩ := h
    exact ⟨a, vs, rfl, .inl (SqL.of h1), h2⟩
  | rol ys =>
    cases e
    obtain ⟨a, vs, rfl, h1, h2⟩ := RN_rol.mp h
    exact ⟨a, vs, rfl, .inl (st.wd.sub.l h1), h2⟩
  | tup ys =>
    cases e
    obtain ⟨a, vs, rfl, h1, h2⟩ := RN_tup.mp h
    exact ⟨a, vs, rfl, .inr (st.wd.sub.t h1), h2⟩
  | _ => cases e
theorem rn_sl {ρ : Env} {S : Store} {σ : L2.St} {g : Gs} (st : Stt C ρ S σ g) {d : D} {xs : List D} {v : V} (h : RN C.K g d v) (e : d = .lst xs ∨ d = .rol xs) : ∃ a vs, v = .ref a ∧ SqL C.K g.H a vs ∧ Rs C.K g.F g.A xs vs := by
  rcases e with rfl | rfl
  · obtain ⟨a, vs, rfl, h1, h2⟩ := h
    exact ⟨a, vs, rfl, SqL.of h1, h2⟩
  · obtain ⟨a, vs, rfl, h1, h2⟩ := RN_rol.mp h
    exact ⟨a, vs, rfl, st.wd.sub.l h1, h2⟩
abbrev rLen2 (K : PySem.W.Frag) : List V → Hp → VK → Prop := fun xs H Q => (∃ x n, xs = [x] ∧ LenV K x H n ∧ Q (.int n) H) ∨ (∃ d kvs, xs = [.ref d] ∧ H d = some (.dK kvs) ∧ Q (.int (kvs.length : Nat)) H)
theorem CallR.or {X : Cx} {f : Value} {r r' : List V → Hp → VK → Prop} (h : CallR X f r) (h' : CallR X f r') : CallR X f (fun xs H Q => r xs H Q ∨ r' xs H Q) := by
  intro pins s σ H xs us Q I rx q
  rcases q with q | q
  · exact h pins s σ H xs us Q I rx q
  · exact h' pins s σ H xs us Q I rx q
theorem CallR.imp {X : Cx} {f : Value} {r r' : List V → Hp → VK → Prop} (h : CallR X f r) (k : ∀ xs H Q, r' xs H Q → r xs H Q) : CallR X f r' := fun pins s σ H xs us Q I rx q => h pins s σ H xs us Q I rx (k _ _ _ q)
end
end Thr
namespace Thr
open PySem PySem.Spec PyProof.Rows L2
section
variable {C : Ctx}
theorem hr_len : ∀ X, Lc C X → CallR X (.builtin "len") (rLen2 C.K) := fun X L => by
  have h := CallR.or (call_len (X := X)) (call_lenD (X := X))
  rw [L.K] at h
  refine CallR.imp h fun xs H Q q => ?_
  rcases q with q | ⟨d, kvs, e, h1, q⟩
  · exact .inl q
  · exact .inr ⟨d, kvs, e, h1, q⟩
theorem cl_len : CallS C (rLen2 C.K) fLen := by
  intro ρ S σ g ds vs rv Q st rx e k
  unfold fLen at e
  split at e
  · split at e
    · cases e
      obtain ⟨v, rfl, r⟩ := p1 rx
      rw [RN_str] at r; subst r
      refine .inl ⟨_, _, rfl, ⟨by rw [mkS_len, SZ_eq]; assumption, rfl⟩, ?_⟩
      rw [mkS_len]
      exact k _ g st (GLe.refl _ _) vI
    · cases e
  · cases e
    obtain ⟨v, rfl, r⟩ := p1 rx
    obtain ⟨a, vs, rfl, h1, h2⟩ := r
    refine .inl ⟨_, _, rfl, .inl ⟨vs, SqL.of h1, rfl⟩, ?_⟩
    rw [← Rs_len h2]
    exact k _ g st (GLe.refl _ _) vI
  · cases e
    obtain ⟨v, rfl, r⟩ := p1 rx
    obtain ⟨a, vs, rfl, h1, h2⟩ := RN_rol.mp r
    refine .inl ⟨_, _, rfl, .inl ⟨vs, st.wd.sub.l h1, rfl⟩, ?_⟩
    rw [← Rs_len h2]
    exact k _ g st (GLe.refl _ _) vI
  · cases e
    obtain ⟨v, rfl, r⟩ := p1 rx
    obtain ⟨a, vs, rfl, h1, h2⟩ := RN_tup.mp r
    refine .inl ⟨_, _, rfl, .inr ⟨vs, st.wd.sub.t h1, rfl⟩, ?_⟩
    rw [← Rs_len h2]
    exact k _ g st (GLe.refl _ _) vI
  · cases e
    obtain ⟨v, rfl, r⟩ := p1 rx
    obtain ⟨a, vs, rfl, h1, h2, h3⟩ := r
    refine .inr ⟨a, vs, rfl, h1, ?_⟩
    have := congrArg List.length h2
    rw [List.length_map, List.length_map] at this
    rw [← this]
    exact k _ g st (GLe.refl _ _) vI
  · cases e
def fAbs : List D → Option RV
  | [.int i] => some (.val (.int (if i < 0 then -i else i)))
  | _ => none
theorem hr_abs : ∀ X, Lc C X → CallR X (.builtin "abs") (fun xs H Q => ∃ i, xs = [.int i] ∧ Q (.int (if i < 0 then -i else i)) H) := fun X L => call_abs
theorem cl_abs : CallS C (fun xs H Q => ∃ i, xs = [.int i] ∧ Q (.int (if i < 0 then -i else i)) H) fAbs := by
  intro ρ S σ g ds vs rv Q st rx e k
  unfold fAbs at e
  split at e
  · cases e
    obtain ⟨v, rfl, r⟩ := p1 rx
    rw [RN_int] at r; subst r
    exact ⟨_, rfl, k _ g st (GLe.refl _ _) vI⟩
  · cases e
def fMin2 : List D → Option RV
  | [.int i, .int j] => some (.val (.int (if j < i then j else i)))
  | _ => none
def fMax2 : List D → Option RV
  | [.int i, .int j] => some (.val (.int (if j > i then j else i)))
  | _ => none
theorem hr_min2 : ∀ X, Lc C X → CallR X (.builtin "min") (fun xs H Q => ∃ i j, xs = [.int i, .int j] ∧ Q (.int (if j < i then j else i)) H) := fun X L => call_min2 L.calm
theorem hr_max2 : ∀ X, Lc C X → CallR X (.builtin "max") (fun xs H Q => ∃ i j, xs = [.int i, .int j] ∧ Q (.int (if j > i then j else i)) H) := fun X L => call_max2 L.calm
theorem cl_min2 : CallS C (fun xs H Q => ∃ i j, xs = [.int i, .int j] ∧ Q (.int (if j < i then j else i)) H) fMin2 := by
  intro ρ S σ g ds vs rv Q st rx e k
  unfold fMin2 at e
  split at e
  · cases e
    obtain ⟨v, u, rfl, r, r'⟩ := p2 rx
    rw [RN_int] at r r'; subst r r'
    exact ⟨_, _, rfl, k _ g st (GLe.refl _ _) vI⟩
  · cases e
theorem cl_max2 : CallS C (fun xs H Q => ∃ i j, xs = [.int i, .int j] ∧ Q (.int (if j > i then j else i)) H) fMax2 := by
  intro ρ S σ g ds vs rv Q st rx e k
  unfold fMax2 at e
  split at e
  · cases e
    obtain ⟨v, u, rfl, r, r'⟩ := p2 rx
    rw [RN_int] at r r'; subst r r'
    exact ⟨_, _, rfl, k _ g st (GLe.refl _ _) vI⟩
  · cases e
/-- int(n), int(flag), int(text) -/
def fInt : List D → Option RV
  | [.int i] => some (.val (.int i))
  | [.bl b] => some (.val (.int (if b then 1 else 0)))
  | [.str s] => if s.length ≤ 640 then (PySem.intText? (mkS s)).map fun n => .val (.int n) else none
  | _ => none
abbrev rInt3 : List V → Hp → VK → Prop := fun xs H Q => ((∃ i, xs = [.int i] ∧ Q (.int i) H) ∨ ∃ k, xs = [.bl k] ∧ Q (.int (if k then 1 else 0)) H) ∨ ∃ a n, xs = [.str a] ∧ PySem.intText? a = some n ∧ a.length ≤ 640 ∧ Q (.int n) H
theorem hr_int : ∀ X, Lc C X → CallR X (.type "int") rInt3 := fun X L => CallR.or call_int1 call_int_str
theorem cl_int : CallS C rInt3 fInt := by
  intro ρ S σ g ds vs rv Q st rx e k
  unfold fInt at e
  split at e
  · cases e
    obtain ⟨v, rfl, r⟩ := p1 rx
    rw [RN_int] at r; subst r
    exact .inl (.inl ⟨_, rfl, k _ g st (GLe.refl _ _) vI⟩)
  · cases e
    obtain ⟨v, rfl, r⟩ := p1 rx
    rw [RN_bl] at r; subst r
    exact .inl (.inr ⟨_, rfl, k _ g st (GLe.refl _ _) vI⟩)
  · split at e
    · rename_i s hs
      cases e1 : PySem.intText? (mkS s) with
      | none => rw [e1] at e; cases e
      | some n =>
        rw [e1] at e; cases e
        obtain ⟨v, rfl, r⟩ := p1 rx
        rw [RN_str] at r; subst r
        exact .inr ⟨_, n, rfl, e1, by rw [mkS_len]; exact hs, k _ g st (GLe.refl _ _) vI⟩
    · cases e
  · cases e
/-- str(n), str(text) -/
def fStr : List D → Option RV
  | [.int i] => if i.natAbs < 1000000 then some (.val (.str (toString i : Str).cps.toList)) else none
  | [.str s] => some (.val (.str s))
  | _ => none
abbrev rStr2 : List V → Hp → VK → Prop := fun xs H Q => (∃ i, xs = [.int i] ∧ i.natAbs.log2 < 1920 ∧ Q (.str (toString i)) H) ∨ ∃ a, xs = [.str a] ∧ Q (.str a) H
theorem hr_str : ∀ X, Lc C X → CallR X (.type "str") rStr2 := fun X L => CallR.or call_str_int SkE.call_str_str
theorem cl_str : CallS C rStr2 fStr := by
  intro ρ S σ g ds vs rv Q st rx e k
  unfold fStr at e
  split at e
  · split at e
    · rename_i i hi
      cases e
      obtain ⟨v, rfl, r⟩ := p1 rx
      rw [RN_int] at r; subst r
      refine .inl ⟨_, rfl, ?_, ?_⟩
      · by_cases h0 : i.natAbs = 0
        · rw [h0]; decide
        · exact (Nat.log2_lt h0).mpr (Nat.lt_trans hi (by decide))
      · have := k (.str (mkS (toString i : Str).cps.toList)) g st (GLe.refl _ _) vS
        rw [mkS_of] at this
        exact this
    · cases e
  · cases e
    obtain ⟨v, rfl, r⟩ := p1 rx
    rw [RN_str] at r; subst r
    exact .inr ⟨_, rfl, k _ g st (GLe.refl _ _) vS⟩
  · cases e
/-- all(flags), sum(intsD) -/
def bls : List D → Option (List Bool)
  | [] => some []
  | .bl b :: ds => (bls ds).map (b :: ·)
  | _ => none
def intsD : List D → Option (List Int)
  | [] => some []
  | .int b :: ds => (intsD ds).map (b :: ·)
  | _ => none
theorem bls_v {K : PySem.W.Frag} {F : Hp} {A : List Addr} : ∀ {ds : List D} {vs : List V} {bs : List Bool}, Rs K F A ds vs → bls ds = some bs → vs = bs.map V.bl
  | [], vs, bs, h, e => by rw [Rs_nil] at h; subst h; cases e; rfl
  | d :: ds, vs, bs, h, e => by
    obtain ⟨v, r, rfl, h1, h2⟩ := Rs_cons.mp h
    cases d with
    | bl b =>
      unfold bls at e
      cases e1 : bls ds with
      | none => rw [e1] at e; cases e
      | some bs' =>
        rw [e1] at e; cases e
        rw [R_bl] at h1; subst h1
        rw [bls_v h2 e1]; rfl
    | _ => cases e
theorem ints_v {K : PySem.W.Frag} {F : Hp} {A : List Addr} : ∀ {ds : List D} {vs : List V} {bs : List Int}, Rs K F A ds vs → intsD ds = some bs → vs = bs.map V.int
  | [], vs, bs, h, e => by rw [Rs_nil] at h; subst h; cases e; rfl
  | d :: ds, vs, bs, h, e => by
    obtain ⟨v, r, rfl, h1, h2⟩ := Rs_cons.mp h
    cases d with
    | int b =>
      unfold intsD at e
      cases e1 : intsD ds with
      | none => rw [e1] at e; cases e
      | some bs' =>
        rw [e1] at e; cases e
        rw [R_int] at h1; subst h1
        rw [ints_v h2 e1]; rfl
    | _ => cases e
def lstOf : D → Option (List D)
  | .lst xs => some xs
  | .rol xs => some xs
  | _ => none
theorem rn_lo {ρ : Env} {S : Store} {σ : L2.St} {g : Gs} (st : Stt C ρ S σ g) {d : D} {xs : List D} {v : V} (h : RN C.K g d v) (e : lstOf d = some xs) : ∃ a vs, v = .ref a ∧ SqL C.K g.H a vs ∧ Rs C.K g.F g.A xs vs := by
  cases d with
  | lst ys => cases e; exact rn_sl st h (.inl rfl)
  | rol ys => cases e; exact rn_sl st h (.inr rfl)
  | _ => cases e
def fAll : List D → Option RV
  | [d] => (lstOf d).bind fun xs => (bls xs).map fun bs => .val (.bl (bs.all id))
  | _ => none
def fSum : List D → Option RV
  | [d] => (lstOf d).bind fun xs => (intsD xs).map fun ns => .val (.int ns.sum)
  | _ => none
theorem hr_all : ∀ X, Lc C X → CallR X (.builtin "all") (rAll C.K) := fun X L => by
  have h := cr_all L.calm
  rw [L.K] at h; exact h
theorem hr_sum : ∀ X, Lc C X → CallR X (.builtin "sum") (rSum C.K) := fun X L => by
  have h := cr_sum L.calm
  rw [L.K] at h; exact h
theorem cl_all : CallS C (rAll C.K) fAll := by
  intro ρ S σ g ds vs rv Q st rx e k
  unfold fAll at e
  split at e
  · rename_i d
    obtain ⟨v, rfl, r⟩ := p1 rx
    cases e1 : lstOf d with
    | none => rw [e1] at e; cases e
    | some xs =>
      rw [e1] at e
      cases e2 : bls xs with
      | none => rw [Option.bind_some, e2] at e; cases e
      | some bs =>
        rw [Option.bind_some, e2] at e; cases e
        obtain ⟨a, vs, rfl, h1, h2⟩ := rn_lo st r e1
        rw [bls_v h2 e2] at h1
        exact ⟨a, bs, rfl, h1, k _ g st (GLe.refl _ _) vB⟩
  · cases e
theorem cl_sum : CallS C (rSum C.K) fSum := by
  intro ρ S σ g ds vs rv Q st rx e k
  unfold fSum at e
  split at e
  · rename_i d
    obtain ⟨v, rfl, r⟩ := p1 rx
    cases e1 : lstOf d with
    | none => rw [e1] at e; cases e
    | some xs =>
      rw [e1] at e
      cases e2 : intsD xs with
      | none => rw [Option.bind_some, e2] at e; cases e
      | some bs =>
        rw [Option.bind_some, e2] at e; cases e
        obtain ⟨a, vs, rfl, h1, h2⟩ := rn_lo st r e1
        rw [ints_v h2 e2] at h1
        exact ⟨a, bs, rfl, h1, k _ g st (GLe.refl _ _) vI⟩
  · cases e
/-- min(intsD), max(intsD) -/
def minI : Int → List Int → Int
  | a, [] => a
  | a, b :: l => minI (if b < a then b else a) l
def maxI : Int → List Int → Int
  | a, [] => a
  | a, b :: l => maxI (if a < b then b else a) l
theorem minI_spec : ∀ (l : List Int) (a : Int), (minI a l = a ∨ minI a l ∈ l) ∧ minI a l ≤ a ∧ ∀ y, y ∈ l → minI a l ≤ y
  | [], a => ⟨.inl rfl, Int.le_refl a, fun y h => by simp at h⟩
  | b :: l, a => by
    obtain ⟨h1, h2, h3⟩ := minI_spec l (if b < a then b else a)
    have hb : (if b < a then b else a) ≤ b := by split <;> omega
    have ha : (if b < a then b else a) ≤ a := by split <;> omega
    refine ⟨?_, Int.le_trans h2 ha, fun y hy => ?_⟩
    · show minI (if b < a then b else a) l = a ∨ minI (if b < a then b else a) l ∈ b :: l
      rcases h1 with h1 | h1
      · by_cases hc : b < a
        · right; rw [h1, if_pos hc]; simp
        · left; rw [h1, if_neg hc]
      · right; simp [h1]
    · rcases List.mem_cons.mp hy with rfl | hy
      · exact Int.le_trans h2 hb
      · exact h3 y hy
theorem maxI_spec : ∀ (l : List Int) (a : Int), (maxI a l = a ∨ maxI a l ∈ l) ∧ a ≤ maxI a l ∧ ∀ y, y ∈ l → y ≤ maxI a l
  | [], a => ⟨.inl rfl, Int.le_refl a, fun y h => by simp at h⟩
  | b :: l, a => by
    obtain ⟨h1, h2, h3⟩ := maxI_spec l (if a < b then b else a)
    have hb : b ≤ (if a < b then b else a) := by split <;> omega
    have ha : a ≤ (if a < b then b else a) := by split <;> omega
    refine ⟨?_, Int.le_trans ha h2, fun y hy => ?_⟩
    · show maxI (if a < b then b else a) l = a ∨ maxI (if a < b then b else a) l ∈ b :: l
      rcases h1 with h1 | h1
      · by_cases hc : a < b
        · right; rw [h1, if_pos hc]; simp
        · left; rw [h1, if_neg hc]
      · right; simp [h1]
    · rcases List.mem_cons.mp hy with rfl | hy
      · exact Int.le_trans hb h2
      · exact h3 y hy
def fMin : List D → Option RV
  | [d] => (lstOf d).bind fun xs => (intsD xs).bind fun ns => match ns with
    | [] => none
    | a :: l => some (.val (.int (minI a l)))
  | _ => none
theorem hr_min : ∀ X, Lc C X → CallR X (.builtin "min") (rMin C.K) := fun X L => by
  have h := cr_min L.calm
  rw [L.K] at h; exact h
theorem cl_min : CallS C (rMin C.K) fMin := by
  intro ρ S σ g ds vs rv Q st rx e k
  unfold fMin at e
  split at e
  · rename_i d
    obtain ⟨v, rfl, r⟩ := p1 rx
    cases e1 : lstOf d with
    | none => rw [e1] at e; cases e
    | some xs =>
      rw [e1] at e
      cases e2 : intsD xs with
      | none => rw [Option.bind_some, e2] at e; cases e
      | some bs =>
        rw [Option.bind_some, e2] at e
        cases bs with
        | nil => cases e
        | cons b bs =>
          cases e
          obtain ⟨a, vs, rfl, h1, h2⟩ := rn_lo st r e1
          rw [ints_v h2 e2] at h1
          obtain ⟨m1, m2, m3⟩ := minI_spec bs b
          refine ⟨a, b :: bs, rfl, h1, by simp, fun m hm hl => ?_⟩
          have e3 : m = minI b bs := by
            refine Int.le_antisymm (hl _ ?_) ?_
            · rcases m1 with m1 | m1
              · rw [m1]; simp
              · simp [m1]
            · rcases List.mem_cons.mp hm with rfl | hm
              · exact m2
              · exact m3 m hm
          rw [e3]
          exact k _ g st (GLe.refl _ _) vI
  · cases e
/-- list(xs), tuple(xs) -/
def fList : List D → Option RV
  | [d] => (seqOf d).map fun xs => .own xs
  | _ => none
def fTuple : List D → Option RV
  | [d] => (seqOf d).map fun xs => .val (.tup xs)
  | _ => none
abbrev rListV (K : PySem.W.Frag) : List V → Hp → VK → Prop := fun xs H Q => ∃ p ys, xs = [.ref p] ∧ (SqL K H p ys ∨ SqT K H p ys) ∧ ∀ l, H l = none → Q (.ref l) (upd H l (.lst ys))
abbrev rTupV (K : PySem.W.Frag) : List V → Hp → VK → Prop := fun xs H Q => ∃ p ys, xs = [.ref p] ∧ ((SqL K H p ys ∧ ∀ l, H l = none → Q (.ref l) (upd H l (.tup ys))) ∨ (SqT K H p ys ∧ Q (.ref p) H))
theorem hr_list : ∀ X, Lc C X → CallR X (.type "list") (rListV C.K) := fun X L => by
  have h := call_list_of (X := X)
  rw [L.K] at h; exact h
theorem hr_tuple : ∀ X, Lc C X → CallR X (.type "tuple") (rTupV C.K) := fun X L => by
  have h := call_tuple_of (X := X)
  rw [L.K] at h; exact h
theorem cl_list : CallS C (rListV C.K) fList := by
  intro ρ S σ g ds vs rv Q st rx e k
  unfold fList at e
  split at e
  · rename_i d
    obtain ⟨v, rfl, r⟩ := p1 rx
    cases e1 : seqOf d with
    | none => rw [e1] at e; cases e
    | some xs =>
      rw [e1] at e; cases e
      obtain ⟨a, vs, rfl, h1, h2⟩ := rn_sq st r e1
      exact ⟨a, vs, rfl, h1, fun p hp => k _ (g.pv p _) (st.priv hp) (Stt.le_pv hp) (own_new st hp h2)⟩
  · cases e
theorem cl_tuple : CallS C (rTupV C.K) fTuple := by
  intro ρ S σ g ds vs rv Q st rx e k
  unfold fTuple at e
  split at e
  · rename_i d
    obtain ⟨v, rfl, r⟩ := p1 rx
    cases d with
    | lst xs =>
      cases e
      obtain ⟨a, vs, rfl, h1, h2⟩ := r
      exact ⟨a, vs, rfl, .inl ⟨SqL.of h1, fun p hp => k _ (g.up p _) (st.grow hp) (st.le_up hp) (tup_new st hp h2)⟩⟩
    | rol xs =>
      cases e
      obtain ⟨a, vs, rfl, h1, h2⟩ := RN_rol.mp r
      exact ⟨a, vs, rfl, .inl ⟨st.wd.sub.l h1, fun p hp => k _ (g.up p _) (st.grow hp) (st.le_up hp) (tup_new st hp h2)⟩⟩
    | tup xs =>
      cases e
      obtain ⟨a, vs, rfl, h1, h2⟩ := RN_tup.mp r
      exact ⟨a, vs, rfl, .inr ⟨st.wd.sub.t h1, k _ g st (GLe.refl _ _) r⟩⟩
    | _ => cases e
  · cases e
/-- isinstance(x, T), isinstance(x, (T, ..)) of built-in classes -/
def tyN : D → Option String
  | .non => some "NoneType"
  | .bl _ => some "bool"
  | .int _ => some "int"
  | .str _ => some "str"
  | .lst _ => some "list"
  | .rol _ => some "list"
  | .tup _ => some "tuple"
  | .dic _ _ => some "dict"
  | _ => none
def isT (a b : String) : Option Bool :=
  if b = "int" then some (a == "int" || a == "bool") else if b = "bool" then some (a == "bool") else if b = "str" then some (a == "str") else if b = "list" then some (a == "list") else if b = "tuple" then some (a == "tuple") else none
def fIsi : List D → Option RV
  | [x, .typ b] => (tyN x).bind fun a => (isT a b).map fun r => .val (.bl r)
  | _ => none
theorem isT_kit {x : D} {a b : String} {r : Bool} (h : tyN x = some a) (e : isT a b = some r) : kitB a b = some r := by
  have ha : a = "NoneType" ∨ a = "bool" ∨ a = "int" ∨ a = "str" ∨ a = "list" ∨ a = "tuple" ∨ a = "dict" := by
    cases x <;> cases h <;> simp
  have hb : b = "int" ∨ b = "bool" ∨ b = "str" ∨ b = "list" ∨ b = "tuple" := by
    unfold isT at e
    split at e
    · exact .inl (by assumption)
    · split at e
      · exact .inr (.inl (by assumption))
      · split at e
        · exact .inr (.inr (.inl (by assumption)))
        · split at e
          · exact .inr (.inr (.inr (.inl (by assumption))))
          · split at e
            · exact .inr (.inr (.inr (.inr (by assumption))))
            · cases e
  have tbl : ∀ a ∈ ["NoneType", "bool", "int", "str", "list", "tuple", "dict"], ∀ b ∈ ["int", "bool", "str", "list", "tuple"], isT a b = kitB a b := by decide +kernel
  rw [← tbl a (by rcases ha with h | h | h | h | h | h | h <;> subst h <;> simp) b (by rcases hb with h | h | h | h | h <;> subst h <;> simp)]
  exact e
theorem tyN_v {ρ : Env} {S : Store} {σ : L2.St} {g : Gs} (st : Stt C ρ S σ g) {x : D} {v : V} {a : String} (h : RN C.K g x v) (e : tyN x = some a) : TyX C.K g.H v (.type a) := by
  have rl : ∀ {b : Addr} {vs : List V}, SqL C.K g.H b vs → TyX C.K g.H (.ref b) (.type "list") := fun {b vs} q => by
    rcases q with (q | ⟨o, q⟩) | ⟨o, its, n, q, q2, _⟩
    · exact .base (.lst q)
    · exact .base (.frz q)
    · exact .kList q q2
  cases x with
  | non => cases e; rw [RN_non] at h; subst h; exact .base .non
  | bl b => cases e; rw [RN_bl] at h; subst h; exact .base (.bl b)
  | int b => cases e; rw [RN_int] at h; subst h; exact .base (.int b)
  | str b => cases e; rw [RN_str] at h; subst h; exact .base (.str _)
  | lst xs => cases e; obtain ⟨b, vs, rfl, h1, h2⟩ := h; exact rl (SqL.of h1)
  | rol xs => cases e; obtain ⟨b, vs, rfl, h1, h2⟩ := RN_rol.mp h; exact rl (st.wd.sub.l h1)
  | tup xs =>
    cases e
    obtain ⟨b, vs, rfl, h1, h2⟩ := RN_tup.mp h
    rcases st.wd.sub.t h1 with (q | ⟨o, q⟩) | ⟨o, its, n, q, q2, _⟩
    · exact .base (.tup q)
    · exact .fTuple q
    · exact .kTuple q q2
  | dic ks xs => cases e; obtain ⟨b, vs, rfl, h1, h2⟩ := h; exact .base (.dK h1)
  | cel n => cases e
  | typ n => cases e
theorem hr_isi : ∀ X, Lc C X → CallR X (.builtin "isinstance") (rIsi C.K) := fun X L => by
  have h := call_isi (X := X)
  rw [L.K] at h; exact h
theorem cl_isi : CallS C (rIsi C.K) fIsi := by
  intro ρ S σ g ds vs rv Q st rx e k
  unfold fIsi at e
  split at e
  · rename_i x b
    obtain ⟨v, u, rfl, r, r'⟩ := p2 rx
    rw [RN_typ] at r'; subst r'
    cases e1 : tyN x with
    | none => rw [e1] at e; cases e
    | some a =>
      rw [e1, Option.bind_some] at e
      cases e2 : isT a b with
      | none => rw [e2] at e; cases e
      | some y =>
        rw [e2] at e; cases e
        exact ⟨v, .ty b, .type a, .type b, y, rfl, .ty b, tyN_v st r e1, kit_ty (isT_kit e1 e2), k _ g st (GLe.refl _ _) vB⟩
  · cases e
/-- names of built-in classes in a row -/
def DTy (C : Ctx) (es : List Expr) (ns : List String) : Prop := ∃ t, (∀ X, Lc C X → PA X es t) ∧ ∀ σ H Q, Q (ns.map V.ty) H → t σ H Q
variable {e a b c : Expr} {es : List Expr} {pos p : Pos} {rest : List Expr} {x : Str}
theorem dty_nil : DTy C [] [] := ⟨tNil, fun X L => pa_nil, fun σ H Q h => h⟩
theorem dty_cons {n : String} {ns : List String} (hg : C.sc.names.lookup x = some .globalImplicit := by rfl) (hm : C.mg x = none) (hv : bootBuiltins x = some (.type n) := by decide +kernel) (hn : x ≠ "__name__" := by decide +kernel) (hdb : (x == ("__debug__" : Str)) = false := by decide +kernel) (h : DTy C es ns)
    (hs : ∀ X : Cx, starEach (.Name x pos :: es) X.env = (false, eval (.Name x pos) X.env) :: starEach es X.env := by intros; rfl) : DTy C (.Name x pos :: es) (n :: ns) := by
  obtain ⟨t, ht, s1⟩ := h
  exact ⟨tCons (tC (.ty n)) t, fun X L => pa_cons (pe_bltn (show X.env.scope.names.lookup x = some .globalImplicit by rw [L.sc]; exact hg) (by rw [L.mg]; exact hm) hv rfl hn hdb) (ht X L) (hs X), fun σ H Q h => s1 σ H _ h⟩
def isTs (a : String) : List String → Option Bool
  | [] => some false
  | b :: r => match isT a b, isTs a r with
    | some x, some y => some (x || y)
    | _, _ => none
theorem isTs_v {K : PySem.W.Frag} {x : D} {a : String} (h : tyN x = some a) : ∀ {bs : List String} {r : Bool}, isTs a bs = some r → Paired ClsV (bs.map V.ty) (bs.map Value.type) ∧ PySem.W.kitAny K (.type a) (bs.map Value.type) = some r
  | [], r, e => by cases e; exact ⟨.nil, kitAny_nil⟩
  | b :: bs, r, e => by
    unfold isTs at e
    cases e1 : isT a b with
    | none => rw [e1] at e; cases e
    | some x1 =>
      cases e2 : isTs a bs with
      | none => rw [e1, e2] at e; cases e
      | some y1 =>
        rw [e1, e2] at e; cases e
        obtain ⟨q1, q2⟩ := isTs_v (K := K) h e2
        refine ⟨.cons (.ty b) q1, kitAny_cons (kit_ty (isT_kit h e1)) (fun hb => ?_) fun hb => ?_⟩
        · rw [hb, Bool.false_or]; exact q2
        · rw [hb, Bool.true_or]
def mIsiT (ns : List String) (m : M Pk) : M D := m.bind fun p => M.look p fun x => M.opt ((tyN x).bind fun a => (isTs a ns).map fun r => .bl r)
theorem de_isiT {m : M Pk} {ns : List String} {f : Str} {k p2} (hf : f = "isinstance" := by rfl) (hg : C.sc.names.lookup f = some .globalImplicit := by rfl) (hm : C.mg f = none) (ha : DK C e m) (ht : DTy C es ns) (hz : ns.length ≤ SZ)
    (hs : ∀ X : Cx, starEach [e, .Tuple es k p2] X.env = (false, eval e X.env) :: starEach [.Tuple es k p2] X.env := by intros; rfl) (hs2 : ∀ X : Cx, starEach [.Tuple es k p2] X.env = (false, eval (.Tuple es k p2) X.env) :: starEach [] X.env := by intros; rfl) (hpl : ∀ X : Cx, (backTo pos (starEach [.Tuple es k p2] X.env)).any (·.1) = false := by intros; rfl) :
    DE C (.Call (.Name f p) [e, .Tuple es k p2] [] pos) (mIsiT ns m) := by
  subst hf
  obtain ⟨ta, ha, sa⟩ := ha
  obtain ⟨tt, ht, st⟩ := ht
  refine ⟨tCB (rIsiT C.K) (tCons ta (tCons (tTup tt) tNil)), fun X L => ?_, fun ρ S σ g Q stt h => sa ρ S σ g _ stt (postG_bind h fun pk ρ1 S1 v g1 _ st1 le1 r1 h1 => st σ _ _ ⟨?_, fun q hq => ?_⟩)⟩
  · have h := pe_callB (p := p) (pos := pos) (call_isiT (X := X)) (show X.env.scope.names.lookup ("isinstance" : Str) = some .globalImplicit by rw [L.sc]; exact hg) (by rw [L.mg]; exact hm) PyProof.Rows.boot_isinstance (pa_cons (ha X L) (pa_cons (pe_tup (pos := p2) (x1 := k) (ht X L)) pa_nil (hs2 X)) (hs X)) (by decide) (by decide) (hs X) (hpl X)
    rw [L.K] at h
    exact h
  · rw [List.length_map, SZ_eq]; exact hz
  · obtain ⟨y, ey, h2⟩ := look_post h1
    obtain ⟨d, ed, h3⟩ := opt_post h2
    have rn := pk_get st1 r1 ey
    cases e1 : tyN y with
    | none => rw [e1] at ed; cases ed
    | some a =>
      rw [e1, Option.bind_some] at ed
      cases e2 : isTs a ns with
      | none => rw [e2] at ed; cases ed
      | some b =>
        rw [e2] at ed; cases ed
        obtain ⟨q1, q2⟩ := isTs_v (K := C.K) e1 e2
        have st2 := st1.grow (o := .tup (ns.map V.ty)) hq
        have ty := tyN_v st1 rn e1
        refine ⟨v, q, ns.map V.ty, .type a, ns.map Value.type, b, rfl, upd_same, q1, ?_, q2, h3 (.bl b) _ st2 (st1.le_up hq) dB⟩
        cases ty with
        | base h =>
          cases h with
          | non => exact .base .non
          | bl b => exact .base (.bl b)
          | int b => exact .base (.int b)
          | str b => exact .base (.str b)
          | flt b => exact .base (.flt b)
          | lst e => exact .base (.lst (by rw [upd_ne (ne_of_none e hq)]; exact e))
          | frz e => exact .base (.frz (by rw [upd_ne (ne_of_none e hq)]; exact e))
          | tup e => exact .base (.tup (by rw [upd_ne (ne_of_none e hq)]; exact e))
          | dK e => exact .base (.dK (by rw [upd_ne (ne_of_none e hq)]; exact e))
          | dT e => exact .base (.dT (by rw [upd_ne (ne_of_none e hq)]; exact e))
        | byt b => exact .byt b
        | set e => exact .set (by rw [upd_ne (ne_of_none e hq)]; exact e)
        | kList e c => exact .kList e c
        | kTuple e c => exact .kTuple e c
        | kDict e c => exact .kDict e c
        | fTuple e => exact .fTuple (by rw [upd_ne (ne_of_none e hq)]; exact e)
        | fDict e => exact .fDict (by rw [upd_ne (ne_of_none e hq)]; exact e)
end
end Thr
namespace Thr
open PySem PySem.Spec PyProof.Rows L2

/-! ### what a def promises -/
/-- a result: a value, or an object of one's own that is new since H -/
def RetR (K : PySem.W.Frag) (F : Hp) (A : List Addr) (H H' : Hp) : RV → V → Prop
  | .val d, v => R K F A d v
  | .own xs, v => ∃ a vs, v = .ref a ∧ F a = none ∧ a ∉ A ∧ H a = none ∧ H' a = some (.lst vs) ∧ Rs K F A xs vs
  | .owd ks ds, v => ∃ a kvs, v = .ref a ∧ F a = none ∧ a ∉ A ∧ H a = none ∧ H' a = some (.dK kvs) ∧ ks.map keyD = kvs.map (fun p => some p.1) ∧ Rs K F A ds (kvs.map (·.2))
  | .ow2 _ _, _ => False
def sp0 (K : PySem.W.Frag) (m : MF) : Sp := fun vs H Q _ => ∃ F A ds S, Wd K F A H S ∧ Rs K F A ds vs ∧
  match m ds S with
  | .ok r S' => ∀ v F' A' H', Wd K F' A' H' S' → Go F A H F' A' H' → RetR K F' A' H H' r v → Q v H'
  | .exc _ _ => False
  | .bad => False
/-- a def that keeps to its mirror, and is found under its name -/
structure Def0 (prog : Program) (w : World) (K : PySem.W.Frag) (mg : Str → Option Value) (base : Heap) (x : Str) (k : Nat) (ps : List Str) (m : MF) : Prop where
  ex : ∃ (f : Addr) (fd : FuncData), mg x = some (.ref f) ∧ PySem.W.keepIn K (.ref f) = true ∧ Binds K fd ps [] ∧ FnOk prog w K mg base CX0 k f fd ps (sp0 K m) ∧ ∃ oc od osl, K.lookup f = some ⟨oc, od, .func fd, osl⟩

section
variable {C : Ctx} {ρ : Env} {S : Store} {σ : L2.St} {g : Gs}
theorem Stt.back (st : Stt C ρ S σ g) {a : Addr} {u : HO} (h : C.H0 a = some u) : ∃ o, g.H a = some o := st.go.track a u h
theorem ret_rvr (st : Stt C ρ S σ g) {F' : Hp} {A' : List Addr} {H' : Hp} (G : Go g.F g.A g.H F' A' H') {r : RV} {v : V} (h : RetR C.K F' A' g.H H' r v) : RVR C g ⟨F', A', H', g.P⟩ r v := by
  have nw : ∀ a, g.H a = none → C.H0 a = none ∧ ∀ i, a ∉ g.P i := fun a ha => by
    refine ⟨?_, fun i m => ?_⟩
    · cases e : C.H0 a with
      | none => rfl
      | some u => obtain ⟨o, q⟩ := st.back e; rw [ha] at q; cases q
    · obtain ⟨u, q⟩ := st.there m
      rw [ha] at q; cases q
  cases r with
  | val d => exact h
  | own xs =>
    obtain ⟨a, vs, rfl, h1, h2, h3, h4, h5⟩ := h
    exact ⟨[a], fun b hb => by rw [List.mem_singleton] at hb; subst hb; exact ⟨⟨⟨h1, h2, (nw _ h3).1⟩, (nw _ h3).2⟩, h3⟩, a, vs, rfl, rfl, h4, h5⟩
  | owd ks ds =>
    obtain ⟨a, vs, rfl, h1, h2, h3, h4, h5, h6⟩ := h
    exact ⟨[a], fun b hb => by rw [List.mem_singleton] at hb; subst hb; exact ⟨⟨⟨h1, h2, (nw _ h3).1⟩, (nw _ h3).2⟩, h3⟩, a, vs, rfl, rfl, h4, h5, h6⟩
  | ow2 t xss => exact h.elim
end
def mCall (f : MF) (m : M (List D)) : M RV := m.bind fun ds => fun ρ S => match f ds S with
  | .ok r S' => .ok r ρ S'
  | .exc x S' => .exc x ρ S'
  | .bad => .bad
/-- a def that raises nothing: what it would raise counts as bad -/
def mCall0 (f : MF) (m : M (List D)) : M RV := m.bind fun ds => fun ρ S => match f ds S with
  | .ok r S' => .ok r ρ S'
  | _ => .bad
section
variable {C : Ctx} {e a b c : Expr} {es : List Expr} {pos p : Pos} {rest : List Expr} {x : Str} {k : Nat} {ps : List Str} {f : MF}
theorem call_core {m : M (List D)} {t : TA} {E : XK}
    (hs : ∀ ρ S σ g Q, Stt C ρ S σ g → PostG C g σ (fun _ g d v => Rs C.K g.F g.A d v) (m ρ S) Q → t σ g.H Q) :
    ∀ ρ S σ g Q, Stt C ρ S σ g → PostG C g σ (RVR C) (mCall0 f m ρ S) Q → tCall (sp0 C.K f) [] E t σ g.H Q := fun ρ S σ g Q st h =>
  hs ρ S σ g _ st (postG_bind h fun ds ρ1 S1 vs g1 _ st1 le1 r1 h1 => by
    show sp0 C.K f (vs ++ []) g1.H Q E
    rw [List.append_nil]
    refine ⟨g1.F, g1.A, ds, S1, st1.wd, r1, ?_⟩
    cases e : f ds S1 with
    | ok r S' =>
      rw [e] at h1
      exact fun v F' A' H' W G rr => h1 v ⟨F', A', H', g1.P⟩ (st1.step G W) (GLe.go G) (ret_rvr st1 G rr)
    | exc y S' => rw [e] at h1; exact h1.elim
    | bad => rw [e] at h1; exact h1.elim)
theorem do_call {m : M (List D)} (F : Def0 C.prog C.w C.K C.mg C.base x k ps f) (hk : k ≤ C.k := by first | exact Nat.le_of_ble_eq_true rfl | exact Nat.le_refl _) (hg : C.sc.names.lookup x = some .globalImplicit := by rfl) (ha : DA C (e :: es) m) (hdb : (x == ("__debug__" : Str)) = false := by decide +kernel)
    (he : ∀ X : Cx, starEach (e :: es) X.env = (false, eval e X.env) :: starEach es X.env := by intros; rfl) (hpl : ∀ X : Cx, (backTo pos (starEach es X.env)).any (·.1) = false := by intros; rfl) : DO C (.Call (.Name x p) (e :: es) [] pos) (mCall0 f m) := by
  obtain ⟨fa, fd, h1, h2, h3, h4, _⟩ := F.ex
  obtain ⟨t, ht, hs⟩ := ha
  refine ⟨tCall (sp0 C.K f) [] E0 t, fun X L => ?_, call_core hs⟩
  refine pe_call (CX := CX0) (k := k) (f := fa) (fd := fd) (ps := ps) (ds := []) ?_ (L.room.mono hk) (show X.env.scope.names.lookup x = some .globalImplicit by rw [L.sc]; exact hg) (by rw [L.mg]; exact h1) (by rw [L.K]; exact h2) (by rw [L.K]; exact h3) .nil pass0 (ht X L) hdb (he X) (hpl X)
  rw [L.prog, L.w, L.K, L.mg, L.base]; exact h4
theorem do_call0 (F : Def0 C.prog C.w C.K C.mg C.base x k ps f) (hk : k ≤ C.k := by first | exact Nat.le_of_ble_eq_true rfl | exact Nat.le_refl _) (hg : C.sc.names.lookup x = some .globalImplicit := by rfl) (hdb : (x == ("__debug__" : Str)) = false := by decide +kernel) : DO C (.Call (.Name x p) [] [] pos) (mCall0 f mNil) := by
  obtain ⟨fa, fd, h1, h2, h3, h4, _⟩ := F.ex
  refine ⟨tCall (sp0 C.K f) [] E0 tNil, fun X L => ?_, call_core fun ρ S σ g Q st h => h [] g st (GLe.refl _ _) (Rs_nil.mpr rfl)⟩
  refine pe_call0 (CX := CX0) (k := k) (f := fa) (fd := fd) (ps := ps) (ds := []) ?_ (L.room.mono hk) (show X.env.scope.names.lookup x = some .globalImplicit by rw [L.sc]; exact hg) (by rw [L.mg]; exact h1) (by rw [L.K]; exact h2) (by rw [L.K]; exact h3) .nil pass0 hdb
  rw [L.prog, L.w, L.K, L.mg, L.base]; exact h4
end

/-! ### statements -/
/-- a value, or what is nobody's -/
def RVE (C : Ctx) (g : Gs) (r : RV) (v : V) : Prop := ∃ p, (∀ a, a ∈ p → Free C g a) ∧ SlR C g.F g.A g.H r.toSl (some v) p
theorem rvr_e {C : Ctx} {g0 g : Gs} {r : RV} {v : V} (h : RVR C g0 g r v) : RVE C g r v := by
  obtain ⟨p, h1, h2⟩ := rvr_sl h
  exact ⟨p, fun a ha => (h1 a ha).1, h2⟩
inductive Fl where
  | nx | bk | ct | rt (r : RV)
def SPost (C : Ctx) (g : Gs) (o : Res Fl) (Dn : Ends) : Prop :=
  match o with
  | .ok .nx ρ S => ∀ σ' g', Stt C ρ S σ' g' → Le g.F g.A g'.F g'.A → Dn.nx σ' g'.H
  | .ok .bk ρ S => ∀ σ' g', Stt C ρ S σ' g' → Le g.F g.A g'.F g'.A → Dn.bk σ' g'.H
  | .ok .ct ρ S => ∀ σ' g', Stt C ρ S σ' g' → Le g.F g.A g'.F g'.A → Dn.ct σ' g'.H
  | .ok (.rt r) ρ S => ∀ σ' g' v, Stt C ρ S σ' g' → RVE C g' r v → Dn.rt v g'.H
  | .exc x ρ S => ∀ σ' cls dd g', Stt C ρ S σ' g' → C.XR x cls dd g'.F g'.A g'.H → C.W cls dd σ' g'.H
  | .bad => False
theorem SPost.le {C : Ctx} {g g1 : Gs} {o : Res Fl} {Dn : Ends} (le : Le g.F g.A g1.F g1.A) (h : SPost C g o Dn) : SPost C g1 o Dn := by
  cases o with
  | ok f ρ S =>
    cases f with
    | nx => exact fun σ' g' st' le' => h σ' g' st' (le.trans le')
    | bk => exact fun σ' g' st' le' => h σ' g' st' (le.trans le')
    | ct => exact fun σ' g' st' le' => h σ' g' st' (le.trans le')
    | rt r => exact h
  | exc x ρ S => exact h
  | bad => exact h
def DS (C : Ctx) (s : Stmt) (m : M Fl) : Prop :=
  ∃ t, (∀ X, Lc C X → PS X s t) ∧ ∀ ρ S σ g Dn, Stt C ρ S σ g → SPost C g (m ρ S) Dn → t Dn σ g.H
def DSs (C : Ctx) (s : List Stmt) (m : M Fl) : Prop :=
  ∃ t, (∀ X, Lc C X → PSs X s t) ∧ ∀ ρ S σ g Dn, Stt C ρ S σ g → SPost C g (m ρ S) Dn → t Dn σ g.H
def sNil : M Fl := M.ret .nx
def sSeq (m n : M Fl) : M Fl := m.bind fun f => match f with
  | .nx => n
  | f => M.ret f
def sRet (m : M RV) : M Fl := m.bind fun r => M.ret (.rt r)
def sRetN : M Fl := M.ret (.rt (.val .non))
def sIf (c : M Bool) (m n : M Fl) : M Fl := mIf c m n
def sPut (i : Nat) (r : RV) : M Fl := fun ρ S => if i < ρ.length then .ok .nx (ρ.set i r.toSl) S else .bad
def sSet (i : Nat) (m : M RV) : M Fl := m.bind fun r => sPut i r
def sDrop (m : M RV) : M Fl := m.bind fun _ => M.ret .nx
/-- slots forgotten (nothing of the text) -/
def sForget : List Nat → M Fl
  | [] => M.ret .nx
  | i :: is => fun ρ S => sForget is (ρ.set i .un) S
section
variable {C : Ctx} {s : Stmt} {rest ss tt : List Stmt} {e c : Expr} {pos : Pos} {x : Str}
theorem dss_nil : DSs C [] sNil := ⟨tNext, fun X L => pss_nil, fun ρ S σ g Dn st h => h σ g st (Le.refl _ _)⟩
theorem spost_seq {m n : M Fl} {ρ : Env} {S : Store} {g : Gs} {Dn : Ends} {N : L2.St → Hp → Prop} (h : SPost C g (sSeq m n ρ S) Dn)
    (k : ∀ ρ1 S1 σ1 g1, Stt C ρ1 S1 σ1 g1 → Le g.F g.A g1.F g1.A → SPost C g1 (n ρ1 S1) Dn → N σ1 g1.H) : SPost C g (m ρ S) { Dn with nx := N } := by
  unfold sSeq M.bind at h
  cases e : m ρ S with
  | ok f ρ1 S1 =>
    rw [e] at h
    cases f with
    | nx => exact fun σ' g' st' le' => k ρ1 S1 σ' g' st' le' (h.le le')
    | bk => exact h
    | ct => exact h
    | rt r => exact h
  | exc x ρ1 S1 => rw [e] at h; exact h
  | bad => rw [e] at h; exact h
theorem dss_cons {m n : M Fl} (h : DS C s m) (h' : DSs C rest n) : DSs C (s :: rest) (sSeq m n) := by
  obtain ⟨t, ht, s1⟩ := h
  obtain ⟨t', ht', s2⟩ := h'
  exact ⟨tSeq t t', fun X L => pss_cons (ht X L) (ht' X L), fun ρ S σ g Dn st h => s1 ρ S σ g _ st (spost_seq h fun ρ1 S1 σ1 g1 st1 _ h1 => s2 ρ1 S1 σ1 g1 Dn st1 h1)⟩
theorem dss_one {m : M Fl} (h : DS C s m) : DSs C [s] m := by
  obtain ⟨t, ht, s1⟩ := h
  exact ⟨t, fun X L => pss_one (ht X L), s1⟩
/-- slots are forgotten ahead of a block -/
theorem Stt.forgets : ∀ (is : List Nat) {ρ : Env} {S : Store} {σ : L2.St} {g : Gs}, Stt C ρ S σ g → ∃ ρ' g', sForget is ρ S = .ok .nx ρ' S ∧ Stt C ρ' S σ g' ∧ g'.H = g.H ∧ g'.F = g.F ∧ g'.A = g.A
  | [], ρ, S, σ, g, st => ⟨ρ, g, rfl, st, rfl, rfl, rfl⟩
  | i :: is, ρ, S, σ, g, st => by
    obtain ⟨ρ', g', h1, h2, h3, h4, h5⟩ := Stt.forgets is (st.forget i)
    exact ⟨ρ', g', h1, h2, h3, h4, h5⟩
theorem dss_forget {m : M Fl} (is : List Nat) (h : DSs C ss m) : DSs C ss (sSeq (sForget is) m) := by
  obtain ⟨t, ht, s1⟩ := h
  refine ⟨t, ht, fun ρ S σ g Dn st h => ?_⟩
  obtain ⟨ρ', g', h1, h2, h3, h4, h5⟩ := Stt.forgets is st
  unfold sSeq M.bind at h
  rw [h1] at h
  have := s1 ρ' S σ g' Dn h2 (h.le (by rw [h4, h5]; exact Le.refl _ _))
  rw [h3] at this
  exact this
theorem ds_ret {m : M RV} (h : DO C e m) : DS C (.Return (some e) pos) (sRet m) := by
  obtain ⟨t, ht, hs⟩ := h
  refine ⟨tRet t, fun X L => ps_ret (ht X L), fun ρ S σ g Dn st h => hs ρ S σ g _ st ?_⟩
  unfold sRet M.bind at h
  cases e : m ρ S with
  | ok r ρ1 S1 => rw [e] at h; exact fun v g' st' le' rr => h σ g' v st' (rvr_e rr)
  | exc x ρ1 S1 => rw [e] at h; exact fun cls dd g' st' xr => h σ cls dd g' st' xr
  | bad => rw [e] at h; exact h.elim
theorem ds_retN : DS C (.Return none pos) sRetN := ⟨tRetN, fun X L => ps_retN, fun ρ S σ g Dn st h => h σ g .non st (rvr_e (g0 := g) vN)⟩
theorem ds_pass : DS C (.Pass pos) sNil := ⟨tNext, fun X L => ps_pass, fun ρ S σ g Dn st h => h σ g st (Le.refl _ _)⟩
theorem ds_break : DS C (.Break pos) (M.ret .bk) := ⟨tBreak, fun X L => ps_break, fun ρ S σ g Dn st h => h σ g st (Le.refl _ _)⟩
theorem ds_cont : DS C (.Continue pos) (M.ret .ct) := ⟨tCont, fun X L => ps_continue, fun ρ S σ g Dn st h => h σ g st (Le.refl _ _)⟩
theorem ds_if {m : M Bool} {n n' : M Fl} (hc : DT C c m) (ha : DSs C ss n) (hb : DSs C tt n') : DS C (.If c ss tt pos) (sIf m n n') := by
  obtain ⟨tc, hc, sc⟩ := hc
  obtain ⟨ta, ha, sa⟩ := ha
  obtain ⟨tb, hb, sb⟩ := hb
  refine ⟨tIfS tc ta tb, fun X L => ps_if (hc X L) (ha X L) (hb X L), fun ρ S σ g Dn st h => sc ρ S σ g _ st ?_⟩
  unfold sIf mIf M.bind at h
  cases e : m ρ S with
  | ok b ρ1 S1 =>
    rw [e] at h
    intro v g' st' le' ev
    subst ev
    cases v with
    | true => exact sa ρ1 S1 σ g' Dn st' (h.le le'.le)
    | false => exact sb ρ1 S1 σ g' Dn st' (h.le le'.le)
  | exc x ρ1 S1 => rw [e] at h; exact fun cls dd g' st' xr => h σ cls dd g' st' xr
  | bad => rw [e] at h; exact h.elim
theorem Stt.put_rv {ρ : Env} {S : Store} {σ : L2.St} {g : Gs} (st : Stt C ρ S σ g) {i : Nat} {r : RV} {v : V} (hi : i < ρ.length) (h : RVE C g r v) : ∃ g', Stt C (ρ.set i r.toSl) S (σ.set i (some v)) g' ∧ g'.H = g.H ∧ g'.F = g.F ∧ g'.A = g.A := by
  obtain ⟨p, pr, sl⟩ := h
  exact ⟨_, st.put hi sl fun a ha => ⟨(pr a ha).1, fun j _ => (pr a ha).2 j⟩, rfl, rfl, rfl⟩
theorem set_core {i : Nat} {m : M RV} {t : TE} (hs : ∀ ρ S σ g Q, Stt C ρ S σ g → PostG C g σ (RVR C) (m ρ S) Q → t σ g.H Q) : ∀ ρ S σ g Dn, Stt C ρ S σ g → SPost C g (sSet i m ρ S) Dn → tAsg t (gName i) Dn σ g.H := fun ρ S σ g Dn st h => by
  refine hs ρ S σ g _ st ?_
  unfold sSet M.bind at h
  cases e : m ρ S with
  | ok r ρ1 S1 =>
    rw [e] at h
    intro v g' st' le' rr
    dsimp only at h
    unfold sPut at h
    by_cases hi : i < ρ1.length
    · rw [if_pos hi] at h
      obtain ⟨g2, st2, eh, eF, eA⟩ := st'.put_rv hi (rvr_e rr)
      have := h _ g2 st2 (by rw [eF, eA]; exact le'.le)
      rw [eh] at this
      exact this
    · rw [if_neg hi] at h
      exact h.elim
  | exc x ρ1 S1 => rw [e] at h; exact fun cls dd g' st' xr => h σ cls dd g' st' xr
  | bad => rw [e] at h; exact h.elim
theorem ds_set {m : M RV} {pos' : Pos} (i : Nat) (hi : C.N[i]? = some x := by rfl) (hx : Sto C x := by first | exact Or.inl rfl | exact Or.inr ⟨rfl, rfl⟩) (h : DO C e m) (hs : ∀ X : Cx, swapsWith e (some (.Name x pos')) pos.line X.env = pure false := by intros; rfl) : DS C (.Assign [.Name x pos'] e pos) (sSet i m) := by
  obtain ⟨t, ht, s1⟩ := h
  exact ⟨tAsg t (gName i), fun X L => ps_set (by rw [L.N]; exact L.nd) (by rw [L.N]; exact hi) (by rw [L.sc]; exact hx.loc) (ht X L) (hs X) (by rw [L.sc]; exact hx.fn L), set_core s1⟩
theorem ds_expr {m : M RV} (h : DO C e m) (hs : ∀ X : Cx, swapsWith e none pos.line X.env = pure false := by intros; rfl) : DS C (.Expr e pos) (sDrop m) := by
  obtain ⟨t, ht, s1⟩ := h
  refine ⟨tDrop t, fun X L => ps_expr (ht X L) (hs X), fun ρ S σ g Dn st h => s1 ρ S σ g _ st ?_⟩
  unfold sDrop M.bind at h
  cases e : m ρ S with
  | ok r ρ1 S1 => rw [e] at h; exact fun v g' st' le' rr => h σ g' st' le'.le
  | exc x ρ1 S1 => rw [e] at h; exact fun cls dd g' st' xr => h σ cls dd g' st' xr
  | bad => rw [e] at h; exact h.elim
/-- x, y = a, b -/
def sPar (i j : Nat) (m n : M RV) : M Fl := m.bind fun r => n.bind fun r' => (sPut i r).bind fun _ => sPut j r'
end
end Thr
namespace Thr
open PySem PySem.Spec PyProof.Rows L2

/-! ### what is walked -/
def ItD (C : Ctx) (g : Gs) (J : It) (ds : List D) : Prop :=
  ∃ (n : Nat) (G : Hp → Prop) (Y : Nat → Hp → V → Hp → Prop), Walk J n G Y ∧ ds.length = n ∧ (∀ g' : Gs, Le g.F g.A g'.F g'.A → Ex g'.F g'.H → G g'.H) ∧
    ∀ ρ S σ g' (i : Nat) x H', Stt C ρ S σ g' → Le g.F g.A g'.F g'.A → i < n → Y i g'.H x H' → ∃ g'' d, ds[i]? = some d ∧ g''.H = H' ∧ Stt C ρ S σ g'' ∧ GLe C g' g'' ∧ R C.K g''.F g''.A d x
def DI (C : Ctx) (tg iter : Expr) (m : M (List D)) : Prop :=
  ∃ wi, (∀ X, Lc C X → PI X tg iter wi) ∧ ∀ ρ S σ g (Rk : It → Hp → Prop), Stt C ρ S σ g → PostG C g σ (fun _ g' ds J => ItD C g' J ds) (m ρ S) Rk → wi σ g.H Rk
theorem itd_at {C : Ctx} {g : Gs} {J : It} {ds : List D} {vs : List V} {G : Hp → Prop} (w : Walk J vs.length G (YAt vs)) (hG : ∀ g' : Gs, Le g.F g.A g'.F g'.A → Ex g'.F g'.H → G g'.H) (r : Rs C.K g.F g.A ds vs) : ItD C g J ds := by
  refine ⟨vs.length, G, YAt vs, w, Rs_len r, hG, fun ρ S σ g' i x H' st le hi y => ?_⟩
  obtain ⟨rfl, hx⟩ := y
  obtain ⟨d, h1, h2⟩ := Rs_getV r hx
  exact ⟨g', d, h1, rfl, st, GLe.refl _ _, R_mono le _ _ h2⟩
section
variable {C : Ctx} {tg a b e : Expr} {es : List Expr} {pos p : Pos}
def lstOr : D → Option (List D)
  | .lst xs => some xs
  | .rol xs => some xs
  | .tup xs => some xs
  | .str s => some (s.map fun c => .str [c])
  | _ => none
/-- a list, a frozen one -/
def mItL (m : M D) : M (List D) := m.bind fun d => M.opt (lstOf d)
def tupOf : D → Option (List D)
  | .tup xs => some xs
  | _ => none
def strOf : D → Option (List Nat)
  | .str xs => some xs
  | _ => none
def mItT (m : M D) : M (List D) := m.bind fun d => M.opt (tupOf d)
def mItS (m : M D) : M (List D) := m.bind fun d => M.opt ((strOf d).map fun s => s.map fun c => .str [c])
theorem di_list {m : M D} (h : DE C e m) : DI C tg e (mItL m) := by
  obtain ⟨t, ht, hs⟩ := h
  refine ⟨iList C.K t, fun X L => by have := pi_list (tg := tg) (ht X L); rw [L.K] at this; exact this, fun ρ S σ g Rk st h => hs ρ S σ g _ st (postG_bind h fun d ρ1 S1 v g1 _ st1 le1 r1 h1 => ?_)⟩
  obtain ⟨xs, e1, h2⟩ := opt_post h1
  have sq : ∃ a vs, v = .ref a ∧ SqL C.K g1.F a vs ∧ Rs C.K g1.F g1.A xs vs := by
    cases d with
    | lst ys => cases e1; obtain ⟨a, vs, q1, q2, q3⟩ := R_lst.mp r1; exact ⟨a, vs, q1, SqL.of q2, q3⟩
    | rol ys => cases e1; exact R_rol.mp r1
    | _ => cases e1
  obtain ⟨a, vs, rfl, q2, q3⟩ := sq
  exact ⟨a, rfl, ⟨vs, st1.wd.sub.l q2⟩, h2 _ g1 st1 (GLe.refl _ _) (itd_at walk_list (fun g' le ex => ex.l (le.ex.l q2)) q3)⟩
theorem di_tup {m : M D} (h : DE C e m) : DI C tg e (mItT m) := by
  obtain ⟨t, ht, hs⟩ := h
  refine ⟨iTup C.K t, fun X L => by have := pi_tup (tg := tg) (ht X L); rw [L.K] at this; exact this, fun ρ S σ g Rk st h => hs ρ S σ g _ st (postG_bind h fun d ρ1 S1 v g1 _ st1 le1 r1 h1 => ?_)⟩
  obtain ⟨xs, e1, h2⟩ := opt_post h1
  cases d with
  | tup ys =>
    cases e1
    obtain ⟨a, vs, rfl, q2, q3⟩ := R_tup.mp r1
    exact ⟨a, rfl, ⟨vs, st1.wd.sub.t q2⟩, h2 _ g1 st1 (GLe.refl _ _) (itd_at walk_tup (fun g' le ex => ex.t (le.ex.t q2)) q3)⟩
  | _ => cases e1
theorem di_str {m : M D} (h : DE C e m) : DI C tg e (mItS m) := by
  obtain ⟨t, ht, hs⟩ := h
  refine ⟨iStr t, fun X L => pi_str (tg := tg) (ht X L), fun ρ S σ g Rk st h => hs ρ S σ g _ st (postG_bind h fun d ρ1 S1 v g1 _ st1 le1 r1 h1 => ?_)⟩
  obtain ⟨xs, e1, h2⟩ := opt_post h1
  cases d with
  | str s =>
    cases e1
    rw [R_str] at r1; subst r1
    refine ⟨_, rfl, h2 _ g1 st1 (GLe.refl _ _) ⟨_, _, _, walk_str, by simp [mkS], fun _ _ _ => trivial, fun ρ' S' σ' g' i x H' st' le hi y => ?_⟩⟩
    obtain ⟨rfl, c, hc, rfl⟩ := y
    refine ⟨g', .str [c], ?_, rfl, st', GLe.refl _ _, dS⟩
    have hc' : s[i]? = some c := by simpa [mkS] using hc
    rw [List.getElem?_map, hc']
    rfl
  | _ => cases e1
/-- range(n), range(a, b) -/
def rng (lo : Int) (n : Nat) : List D := (List.range n).map fun i => .int (lo + (i : Nat))
def okR (j : Int) : Bool := decide (j ≤ 100000000) && decide (-100000000 ≤ j)
theorem okR_of {j : Int} (h : okR j = true) : j ≤ 100000000 ∧ -100000000 ≤ j := by
  unfold okR at h
  rw [Bool.and_eq_true, decide_eq_true_eq, decide_eq_true_eq] at h
  exact h
def rng1 : List D → Option (List D)
  | [.int j] => if okR j = true then some (rng 0 j.toNat) else none
  | _ => none
def rng2 : List D → Option (List D)
  | [.int i, .int j] => if (okR i && okR j) = true then some (rng i (j - i).toNat) else none
  | _ => none
def mRng1 (m : M (List D)) : M (List D) := m.bind fun ds => M.opt (rng1 ds)
def mRng2 (m : M (List D)) : M (List D) := m.bind fun ds => M.opt (rng2 ds)
theorem itd_rng {g : Gs} {lo : Int} {n : Nat} : ItD C g (Itr lo n) (rng lo n) := by
  refine ⟨n, _, _, walk_range, by simp [rng], fun _ _ _ => trivial, fun ρ S σ g' i x H' st le hi y => ?_⟩
  obtain ⟨rfl, rfl⟩ := y
  refine ⟨g', .int (lo + (i : Nat)), ?_, rfl, st, GLe.refl _ _, dI⟩
  unfold rng
  rw [List.getElem?_map, List.getElem?_range hi]
  rfl
theorem di_rng1 {m : M (List D)} {x : Str} (hx : x = "range" := by rfl) (hg : C.sc.names.lookup x = some .globalImplicit := by rfl) (hm : C.mg x = none) (h : DA C [a] m) (hs1 : ∀ X : Cx, starEach [a] X.env = [(false, eval a X.env)] := by intros; rfl) : DI C tg (.Call (.Name x p) [a] [] pos) (mRng1 m) := by
  subst hx
  obtain ⟨t, ht, hs⟩ := h
  refine ⟨iRng1 t, fun X L => pi_range1 (tg := tg) (show X.env.scope.names.lookup ("range" : Str) = some .globalImplicit by rw [L.sc]; exact hg) (by rw [L.mg]; exact hm) (ht X L) (hs1 X), fun ρ S σ g Rk st h => hs ρ S σ g _ st (postG_bind h fun ds ρ1 S1 vs g1 _ st1 le1 r1 h1 => ?_)⟩
  obtain ⟨xs, e1, h2⟩ := opt_post h1
  unfold rng1 at e1
  split at e1
  · split at e1
    · rename_i hz
      cases e1
      obtain ⟨v, rfl, q⟩ := Rs_one_inv r1
      rw [R_int] at q; subst q
      have hz' := okR_of hz
      exact ⟨_, rfl, by omega, by omega, h2 _ g1 st1 (GLe.refl _ _) itd_rng⟩
    · cases e1
  · cases e1
theorem di_rng2 {m : M (List D)} {x : Str} (hx : x = "range" := by rfl) (hg : C.sc.names.lookup x = some .globalImplicit := by rfl) (hm : C.mg x = none) (h : DA C [a, b] m) (hs1 : ∀ X : Cx, starEach [a, b] X.env = [(false, eval a X.env), (false, eval b X.env)] := by intros; rfl) (hs2 : ∀ X : Cx, starEach [b] X.env = [(false, eval b X.env)] := by intros; rfl) : DI C tg (.Call (.Name x p) [a, b] [] pos) (mRng2 m) := by
  subst hx
  obtain ⟨t, ht, hs⟩ := h
  refine ⟨iRng2 t, fun X L => pi_range2 (tg := tg) (show X.env.scope.names.lookup ("range" : Str) = some .globalImplicit by rw [L.sc]; exact hg) (by rw [L.mg]; exact hm) (ht X L) (hs1 X) (hs2 X), fun ρ S σ g Rk st h => hs ρ S σ g _ st (postG_bind h fun ds ρ1 S1 vs g1 _ st1 le1 r1 h1 => ?_)⟩
  obtain ⟨xs, e1, h2⟩ := opt_post h1
  unfold rng2 at e1
  split at e1
  · split at e1
    · rename_i hz
      cases e1
      obtain ⟨v, u, rfl, q, q'⟩ := Rs_two_inv r1
      rw [R_int] at q q'; subst q q'
      rw [Bool.and_eq_true] at hz
      have h1 := okR_of hz.1
      have h2' := okR_of hz.2
      exact ⟨_, _, rfl, by omega, h2 _ g1 st1 (GLe.refl _ _) itd_rng⟩
    · cases e1
  · cases e1
end

/-! ### targets -/
def TPost (C : Ctx) (g : Gs) (σ : L2.St) (vs : List Nat) (o : Res Fl) (Q : L2.St → Hp → Prop) : Prop :=
  match o with
  | .ok .nx ρ S => ∀ σ' g', Stt C ρ S σ' g' → Le g.F g.A g'.F g'.A → g'.H = g.H → (∀ a, Free C g a → Free C g' a) → σ'.length = σ.length → (∀ k, k ∉ vs → σ'[k]? = σ[k]?) → Q σ' g'.H
  | _ => False
/-- a target: the slots vs are written -/
def DG (C : Ctx) (tg : Expr) (vs : List Nat) (m : D → M Fl) : Prop :=
  ∃ t, (∀ X, Lc C X → PG X tg t) ∧ ∀ ρ S σ g d v Q, Stt C ρ S σ g → R C.K g.F g.A d v → TPost C g σ vs (m d ρ S) Q → t v σ g.H Q
def tgN (i : Nat) : D → M Fl := fun d => sPut i (.val d)
section
variable {C : Ctx} {tg a b e : Expr} {es : List Expr} {pos p : Pos} {x y : Str}
theorem Stt.put_val {ρ : Env} {S : Store} {σ : L2.St} {g : Gs} (st : Stt C ρ S σ g) {i : Nat} {d : D} {v : V} (hi : i < ρ.length) (h : R C.K g.F g.A d v) : Stt C (ρ.set i (.val d)) S (σ.set i (some v)) ⟨g.F, g.A, g.H, fun j => if j = i then [] else g.P j⟩ :=
  st.put hi ⟨rfl, v, rfl, h⟩ fun a ha => by simp at ha
theorem free_put {g : Gs} {i : Nat} : ∀ a, Free C g a → Free C ⟨g.F, g.A, g.H, fun j => if j = i then [] else g.P j⟩ a := fun a f => ⟨f.1, fun j => by
  show a ∉ (if j = i then [] else g.P j)
  by_cases h : j = i
  · rw [if_pos h]; simp
  · rw [if_neg h]; exact f.2 j⟩
theorem dg_name (i : Nat) (hi : C.N[i]? = some x := by rfl) (hx : Sto C x := by first | exact Or.inl rfl | exact Or.inr ⟨rfl, rfl⟩) : DG C (.Name x pos) [i] (tgN i) := by
  refine ⟨gName i, fun X L => pg_name (by rw [L.N]; exact L.nd) (by rw [L.N]; exact hi) (by rw [L.sc]; exact hx.loc) (by rw [L.sc]; exact hx.fn L), fun ρ S σ g d v Q st r h => ?_⟩
  unfold tgN sPut at h
  by_cases hl : i < ρ.length
  · rw [if_pos hl] at h
    have := h _ _ (st.put_val hl r) (Le.refl _ _) rfl free_put (by simp) (fun k hk => List.getElem?_set_ne (Ne.symm fun z : k = i => hk (by simp [z])))
    exact this
  · rw [if_neg hl] at h; exact h.elim
/-- targets in a row, of plain names -/
def tgNs : List Nat → List D → M Fl
  | [], [] => M.ret .nx
  | i :: is, d :: ds => fun ρ S => if i < ρ.length then tgNs is ds (ρ.set i (.val d)) S else .bad
  | _, _ => fun _ _ => .bad
def DGs (C : Ctx) (ts : List Expr) (vs : List Nat) : Prop :=
  ∃ t, (∀ X, Lc C X → PGs X ts t) ∧ ∀ ρ S σ g ds us Q, Stt C ρ S σ g → Rs C.K g.F g.A ds us → TPost C g σ vs (tgNs vs ds ρ S) Q → t us σ g.H Q
theorem dgs_nil : DGs C [] [] := by
  refine ⟨gNil, fun X L => pgs_nil, fun ρ S σ g ds us Q st r h => ?_⟩
  cases ds with
  | nil => rw [Rs_nil] at r; exact ⟨r, h σ g st (Le.refl _ _) rfl (fun _ f => f) rfl fun _ _ => rfl⟩
  | cons d ds => exact h.elim
theorem dgs_cons {vs : List Nat} (i : Nat) (hi : C.N[i]? = some x := by rfl) (hx : Sto C x := by first | exact Or.inl rfl | exact Or.inr ⟨rfl, rfl⟩) (h : DGs C es vs) (hs : ∀ X : Cx, (assignEach (.Name x pos :: es) X.env).map (·.2) = assign (.Name x pos) X.env :: (assignEach es X.env).map (·.2) := by intros; rfl) : DGs C (.Name x pos :: es) (i :: vs) := by
  obtain ⟨t, ht, s1⟩ := h
  refine ⟨gCons (gName i) t, fun X L => pgs_cons (pg_name (by rw [L.N]; exact L.nd) (by rw [L.N]; exact hi) (by rw [L.sc]; exact hx.loc) (by rw [L.sc]; exact hx.fn L)) (ht X L) (hs X), fun ρ S σ g ds us Q st r h => ?_⟩
  cases ds with
  | nil => exact h.elim
  | cons d ds =>
    obtain ⟨v, us', rfl, r1, r2⟩ := Rs_cons.mp r
    unfold tgNs at h
    by_cases hl : i < ρ.length
    · rw [if_pos hl] at h
      refine ⟨v, us', rfl, ?_⟩
      have hh : TPost C ⟨g.F, g.A, g.H, fun j => if j = i then [] else g.P j⟩ (σ.set i (some v)) vs (tgNs vs ds (ρ.set i (.val d)) S) Q := by
        revert h
        generalize tgNs vs ds (ρ.set i (.val d)) S = o
        intro h
        cases o with
        | ok f ρ1 S1 =>
          cases f with
          | nx =>
            intro σ' g' st' le' eh fr el ek
            refine h σ' g' st' le' eh (fun a f => fr a (free_put a f)) (by rw [el]; simp) fun k hk => ?_
            rw [ek k fun m => hk (by simp [m])]
            exact List.getElem?_set_ne (Ne.symm fun z : k = i => hk (by simp [z]))
          | _ => exact h
        | _ => exact h
      have z := s1 (ρ.set i (.val d)) S (σ.set i (some v)) ⟨g.F, g.A, g.H, fun j => if j = i then [] else g.P j⟩ ds us' Q (st.put_val hl r1) r2 hh
      exact z
    · rw [if_neg hl] at h; exact h.elim
def tgT (vs : List Nat) : D → M Fl := fun d => match d with
  | .tup ds => if ds.length = vs.length then tgNs vs ds else fun _ _ => .bad
  | _ => fun _ _ => .bad
theorem dg_tup {vs : List Nat} {k : Nat} (h : DGs C es vs) (hn : ∀ X : Cx, (assignEach es X.env).length = vs.length := by intros; rfl) (hst : ∀ X : Cx, (assignEach es X.env).findIdx? (·.1) = none := by intros; rfl) : DG C (.Tuple es k pos) vs (tgT vs) := by
  obtain ⟨t, ht, s1⟩ := h
  refine ⟨gTup C.K vs.length t, fun X L => by have := pg_tup (pos := pos) (k := k) L.calm (ht X L) (hn X) (hst X); rw [L.K] at this; exact this, fun ρ S σ g d v Q st r h => ?_⟩
  cases d with
  | tup ds =>
    obtain ⟨a, us, rfl, q1, q2⟩ := R_tup.mp r
    unfold tgT at h
    dsimp only at h
    by_cases hl : ds.length = vs.length
    · rw [if_pos hl] at h
      exact ⟨a, us, rfl, st.wd.sub.t q1, by rw [← Rs_len q2]; exact hl, s1 ρ S σ g ds us Q st q2 h⟩
    · rw [if_neg hl] at h; exact h.elim
  | _ => exact h.elim
end

/-! ### for -/
def forL (tg : D → M Fl) (body : M Fl) : List D → M Fl
  | [] => M.ret .nx
  | d :: ds => fun ρ S => match tg d ρ S with
    | .ok .nx ρ1 S1 => (match body ρ1 S1 with
      | .ok .nx ρ2 S2 => forL tg body ds ρ2 S2
      | .ok .ct ρ2 S2 => forL tg body ds ρ2 S2
      | .ok .bk ρ2 S2 => .ok .nx ρ2 S2
      | o => o)
    | _ => .bad
def sFor (mi : M (List D)) (tg : D → M Fl) (body : M Fl) : M Fl := mi.bind fun ds => forL tg body ds
section
variable {C : Ctx} {tg iter c : Expr} {body : List Stmt} {pos : Pos}
theorem ds_for {mi : M (List D)} {mt : D → M Fl} {mb : M Fl} {vs : List Nat} (hi : DI C tg iter mi) (hg : DG C tg vs mt) (hb : DSs C body mb) (hs : ∀ (X : Cx) x, foldedSetIterable iter X.env x = pure x := by intros; rfl) : DS C (.For tg iter body [] pos) (sFor mi mt mb) := by
  obtain ⟨wi, hi, si⟩ := hi
  obtain ⟨t, hg, sg⟩ := hg
  obtain ⟨tb, hb, sb⟩ := hb
  refine ⟨tFor wi t tb, fun X L => ps_for L.po L.calm (hi X L) (hg X L) (hb X L) (hs X), fun ρ S σ g Dn st h => si ρ S σ g _ st ?_⟩
  unfold sFor M.bind at h
  cases e : mi ρ S with
  | ok ds ρ1 S1 =>
    rw [e] at h
    intro J g1 st1 le1 it
    obtain ⟨n, G, Y, w, en, hG, hY⟩ := it
    dsimp only at h
    refine for_it w (fun i σ' H' => ∃ ρ' S' g', H' = g'.H ∧ Stt C ρ' S' σ' g' ∧ Le g1.F g1.A g'.F g'.A ∧ SPost C g' (forL mt mb (ds.drop i) ρ' S') Dn) ⟨ρ1, S1, g1, rfl, st1, Le.refl _ _, by rw [List.drop_zero]; exact h.le le1.le⟩ ?_ ?_ ?_
    · rintro i σ' H' _ ⟨ρ', S', g', rfl, st', le', _⟩
      exact hG g' le' st'.wd.sub
    · rintro i x σ' H' H2 hin ⟨ρ', S', g', rfl, st', le', hp⟩ y
      obtain ⟨g2, d, hd, rfl, st2, le2, r2⟩ := hY ρ' S' σ' g' i x H2 st' le' hin y
      have hl : i < ds.length := by rw [en]; exact hin
      have hdrop : ds.drop i = d :: ds.drop (i + 1) := by
        rw [List.drop_eq_getElem_cons hl]
        rw [List.getElem?_eq_getElem hl] at hd
        cases hd; rfl
      rw [hdrop] at hp
      refine sg ρ' S' σ' g2 d x _ st2 r2 ?_
      unfold forL at hp
      cases e1 : mt d ρ' S' with
      | ok f ρ3 S3 =>
        rw [e1] at hp
        cases f with
        | nx =>
          intro σ3 g3 st3 le3 eh _ _ _
          dsimp only at hp
          refine sb ρ3 S3 σ3 g3 _ st3 ?_
          have le13 : Le g1.F g1.A g3.F g3.A := Le.trans le' (Le.trans le2.le le3)
          have le23 : Le g'.F g'.A g3.F g3.A := Le.trans le2.le le3
          cases e2 : mb ρ3 S3 with
          | ok f ρ4 S4 =>
            rw [e2] at hp
            cases f with
            | nx => exact fun σ4 g4 st4 le4 => ⟨ρ4, S4, g4, rfl, st4, Le.trans le13 le4, hp.le (Le.trans le23 le4)⟩
            | ct => exact fun σ4 g4 st4 le4 => ⟨ρ4, S4, g4, rfl, st4, Le.trans le13 le4, hp.le (Le.trans le23 le4)⟩
            | bk => exact fun σ4 g4 st4 le4 => hp σ4 g4 st4 (Le.trans le23 le4)
            | rt r => exact hp
          | exc x ρ4 S4 => rw [e2] at hp; exact hp
          | bad => rw [e2] at hp; exact hp
        | _ => exact hp.elim
      | exc x ρ3 S3 => rw [e1] at hp; exact hp.elim
      | bad => rw [e1] at hp; exact hp.elim
    · rintro σ' H' ⟨ρ', S', g', rfl, st', le', hp⟩
      rw [← en, List.drop_length] at hp
      exact hp σ' g' st' (Le.refl _ _)
  | exc x ρ1 S1 => rw [e] at h; exact fun cls dd g' st' xr => h σ cls dd g' st' xr
  | bad => rw [e] at h; exact h.elim

/-! ### while -/
def whileL (c : M Bool) (body : M Fl) : Nat → M Fl
  | 0 => fun _ _ => .bad
  | n + 1 => fun ρ S => match c ρ S with
    | .ok true ρ1 S1 => (match body ρ1 S1 with
      | .ok .nx ρ2 S2 => whileL c body n ρ2 S2
      | .ok .ct ρ2 S2 => whileL c body n ρ2 S2
      | .ok .bk ρ2 S2 => .ok .nx ρ2 S2
      | o => o)
    | .ok false ρ1 S1 => .ok .nx ρ1 S1
    | .exc x ρ1 S1 => .exc x ρ1 S1
    | .bad => .bad
theorem ds_while {mc : M Bool} {mb : M Fl} (n : Nat) (hc : DT C c mc) (hb : DSs C body mb) : DS C (.While c body [] pos) (whileL mc mb n) := by
  obtain ⟨tc, hc, sc⟩ := hc
  obtain ⟨tb, hb, sb⟩ := hb
  refine ⟨tWhile tc tb, fun X L => ps_while L.po (hc X L) (hb X L), fun ρ S σ g Dn st h => ?_⟩
  refine ⟨fun m σ' H' => ∃ ρ' S' g', H' = g'.H ∧ Stt C ρ' S' σ' g' ∧ SPost C g' (whileL mc mb m ρ' S') Dn, ⟨n, ρ, S, g, rfl, st, h⟩, ?_⟩
  rintro m σ' H' ⟨ρ', S', g', rfl, st', hp⟩
  cases m with
  | zero => exact hp.elim
  | succ m =>
    refine sc ρ' S' σ' g' _ st' ?_
    unfold whileL at hp
    cases e1 : mc ρ' S' with
    | ok b ρ1 S1 =>
      rw [e1] at hp
      intro v g1 st1 le1 ev
      subst ev
      cases v with
      | true =>
        rw [if_pos rfl]
        dsimp only at hp
        refine ⟨fun σ2 H2 => ∃ ρ2 S2 g2, H2 = g2.H ∧ Stt C ρ2 S2 σ2 g2 ∧ SPost C g2 (whileL mc mb m ρ2 S2) Dn, fun σ2 H2 q => ⟨m, Nat.lt_succ_self m, q⟩, sb ρ1 S1 σ' g1 _ st1 ?_⟩
        cases e2 : mb ρ1 S1 with
        | ok f ρ4 S4 =>
          rw [e2] at hp
          cases f with
          | nx => exact fun σ4 g4 st4 le4 => ⟨ρ4, S4, g4, rfl, st4, hp.le (Le.trans le1.le le4)⟩
          | ct => exact fun σ4 g4 st4 le4 => ⟨ρ4, S4, g4, rfl, st4, hp.le (Le.trans le1.le le4)⟩
          | bk => exact fun σ4 g4 st4 le4 => hp σ4 g4 st4 (Le.trans le1.le le4)
          | rt r => exact hp
        | exc x ρ4 S4 => rw [e2] at hp; exact hp
        | bad => rw [e2] at hp; exact hp
      | false =>
        rw [if_neg Bool.false_ne_true]
        exact hp σ' g1 st1 le1.le
    | exc x ρ1 S1 => rw [e1] at hp; exact fun cls dd g2 st2 xr => hp σ' cls dd g2 st2 xr
    | bad => rw [e1] at hp; exact hp.elim
end
end Thr
namespace Thr
open PySem PySem.Spec PyProof.Rows L2

/-! ### an object of one's own is changed -/
section
variable {C : Ctx} {ρ : Env} {S : Store} {σ : L2.St} {g : Gs}
theorem Stt.alter (st : Stt C ρ S σ g) {a : Addr} {o o0 : HO} (h : g.H a = some o0) (pr : Priv C g.F g.A a) {ρ' : Env} (hl : ρ'.length = ρ.length) (same : ∀ i : Nat, a ∉ g.P i → ρ'[i]? = ρ[i]?)
    (new : ∀ (i : Nat) sl, a ∈ g.P i → ρ'[i]? = some sl → SlR C g.F g.A (upd g.H a o) sl ((σ[i]?).getD none) (g.P i)) : Stt C ρ' S σ (g.pv a o) := by
  obtain ⟨p1, p2, p3⟩ := pr
  refine ⟨⟨st.go.le, fun b u hb n => ?_, st.go.fresh, st.go.newA, fun b u hb => ?_⟩, ⟨fun b u hb => ?_, st.wd.len, st.wd.nd, st.wd.fr, fun n c b hc hb => ?_⟩, hl.trans st.len, fun i sl hi => ?_, st.pr, st.dis, fun i hi => st.out i (hl ▸ hi)⟩
  · have hne : b ≠ a := fun z => by subst z; rw [p3] at hb; cases hb
    show upd g.H a o b = some u
    rw [upd_ne hne]; exact st.go.keep b u hb n
  · have hne : b ≠ a := fun z => by subst z; rw [p3] at hb; cases hb
    obtain ⟨o', h'⟩ := st.go.track b u hb
    exact ⟨o', by show upd g.H a o b = _; rw [upd_ne hne]; exact h'⟩
  · have hne : b ≠ a := fun z => by
      subst z
      have q : g.F b = some u := hb
      rw [p1] at q; cases q
    show upd g.H a o b = some u
    rw [upd_ne hne]; exact st.wd.sub b u hb
  · have hne : b ≠ a := fun z => by subst z; exact p2 (List.mem_of_getElem? hb)
    exact CellR_mono (Le.refl _ _) (fun u hu => by show upd g.H a o b = _; rw [upd_ne hne]; exact hu) (st.wd.cel n c b hc hb)
  · by_cases m : a ∈ g.P i
    · exact new i sl m hi
    · rw [same i m] at hi
      refine SlR_mono (Le.refl _ _) (fun b hb u hu => ?_) (st.at_ i sl hi)
      have hne : b ≠ a := fun z => by subst z; exact m hb
      show upd g.H a o b = _
      rw [upd_ne hne]; exact hu
/-- of nobody -/
theorem Stt.alterF (st : Stt C ρ S σ g) {a : Addr} {o o0 : HO} (h : g.H a = some o0) (f : Free C g a) : Stt C ρ S σ (g.pv a o) :=
  st.alter h f.1 rfl (fun _ _ => rfl) fun i _ m => absurd m (f.2 i)

/-! ### slots wiped, then back -/
def wipeE (ρ : Env) : List Nat → Env
  | [] => ρ
  | v :: vs => (wipeE ρ vs).set v .un
def restE (ρ0 ρ : Env) : List Nat → Env
  | [] => ρ
  | v :: vs => match ρ0[v]? with
    | some (.val d) => (restE ρ0 ρ vs).set v (.val d)
    | _ => restE ρ0 ρ vs
theorem wipeE_len (ρ : Env) : ∀ vs, (wipeE ρ vs).length = ρ.length
  | [] => rfl
  | v :: vs => by unfold wipeE; rw [List.length_set, wipeE_len ρ vs]
/-- a slot forgotten in the mirror and in the slots -/
theorem Stt.forget2 (st : Stt C ρ S σ g) (i : Nat) (o : Option V) : Stt C (ρ.set i .un) S (σ.set i o) ⟨g.F, g.A, g.H, fun j => if j = i then [] else g.P j⟩ := by
  have st1 := st.forget i
  refine ⟨st1.go, st1.wd, by simpa using st1.len, fun j sl hj => ?_, st1.pr, st1.dis, st1.out⟩
  by_cases e : j = i
  · subst e
    have hl : j < ρ.length := by
      have := (List.getElem?_eq_some_iff.mp hj).1
      simpa using this
    rw [List.getElem?_set_self hl] at hj
    cases hj
    show (if j = j then [] else g.P j) = []
    rw [if_pos rfl]
  · have := st1.at_ j sl hj
    rw [List.getElem?_set_ne (Ne.symm e)]
    exact this
structure Same (C : Ctx) (g g' : Gs) : Prop where
  H : g'.H = g.H
  F : g'.F = g.F
  A : g'.A = g.A
  fr : ∀ a, Free C g a → Free C g' a
theorem Same.refl (C : Ctx) (g : Gs) : Same C g g := ⟨rfl, rfl, rfl, fun _ h => h⟩
theorem Same.trans {C : Ctx} {g g' g'' : Gs} (x : Same C g g') (y : Same C g' g'') : Same C g g'' := ⟨y.H.trans x.H, y.F.trans x.F, y.A.trans x.A, fun a h => y.fr a (x.fr a h)⟩
theorem Same.gle {C : Ctx} {g g' : Gs} (x : Same C g g') : GLe C g g' := ⟨by rw [x.F, x.A]; exact Le.refl _ _, fun a o h => ⟨o, by rw [x.H]; exact h⟩, fun a o f h => ⟨by rw [x.H]; exact h, x.fr a f⟩⟩
theorem same_put {C : Ctx} {g : Gs} (i : Nat) : Same C g ⟨g.F, g.A, g.H, fun j => if j = i then [] else g.P j⟩ := ⟨rfl, rfl, rfl, fun a f => free_put a f⟩
theorem Stt.wipe2 (st : Stt C ρ S σ g) : ∀ vs : List Nat, ∃ g', Stt C (wipeE ρ vs) S (wipe σ vs) g' ∧ Same C g g'
  | [] => ⟨g, st, Same.refl _ _⟩
  | v :: vs => by
    obtain ⟨g', st', s'⟩ := Stt.wipe2 st vs
    exact ⟨_, st'.forget2 v none, s'.trans (same_put v)⟩
theorem wipe_get {σ : L2.St} {i : Nat} : ∀ {vs : List Nat}, i ∉ vs → (wipe σ vs)[i]? = σ[i]?
  | [], _ => rfl
  | v :: vs, h => by
    unfold wipe
    simp only [List.mem_cons, not_or] at h
    rw [List.getElem?_set_ne (Ne.symm h.1)]
    exact wipe_get h.2
theorem wipeE_get {ρ : Env} {i : Nat} : ∀ {vs : List Nat}, i ∈ vs → ∀ sl, (wipeE ρ vs)[i]? = some sl → sl = .un
  | [], h, _, _ => by simp at h
  | v :: vs, h, sl, e => by
    unfold wipeE at e
    by_cases z : v = i
    · subst z
      by_cases hl : v < (wipeE ρ vs).length
      · rw [List.getElem?_set_self hl] at e; cases e; rfl
      · rw [List.getElem?_eq_none (by simpa using hl)] at e; cases e
    · rw [List.getElem?_set_ne z] at e
      rcases List.mem_cons.mp h with q | q
      · exact absurd q.symm z
      · exact wipeE_get q sl e
/-- other slots under a wiped mirror -/
theorem Stt.swap {vs : List Nat} {σ' : L2.St} (st : Stt C (wipeE ρ vs) S (wipe σ vs) g) (hl : σ'.length = σ.length) (he : wipe σ' vs = wipe σ vs) : Stt C (wipeE ρ vs) S σ' g := by
  refine ⟨st.go, st.wd, by rw [st.len, wipe_length, hl], fun i sl hi => ?_, st.pr, st.dis, st.out⟩
  have a := st.at_ i sl hi
  by_cases m : i ∈ vs
  · have z := wipeE_get m sl hi
    subst z
    exact a
  · rw [← he, wipe_get m] at a
    exact a
theorem Stt.rest (st : Stt C ρ S σ g) {ρ0 : Env} {S0 : Store} {g0 : Gs} (st0 : Stt C ρ0 S0 σ g0) (le : Le g0.F g0.A g.F g.A) : ∀ vs : List Nat, ∃ g', Stt C (restE ρ0 ρ vs) S σ g' ∧ Same C g g'
  | [] => ⟨g, st, Same.refl _ _⟩
  | v :: vs => by
    obtain ⟨g', st', s'⟩ := Stt.rest st st0 le vs
    unfold restE
    split
    · rename_i d hd
      by_cases hv : v < (restE ρ0 ρ vs).length
      · obtain ⟨_, w, h1, h2⟩ := st0.at_ v _ hd
        have hσ : σ[v]? = some (some w) := by
          cases q : σ[v]? with
          | none => rw [q] at h1; cases h1
          | some o => rw [q] at h1; exact congrArg some h1
        have r : R C.K g'.F g'.A d w := by rw [s'.F, s'.A]; exact R_mono le _ _ h2
        have st2 := st'.put_val hv r
        rw [List.set_self σ v _ hσ] at st2
        exact ⟨_, st2, s'.trans (same_put v)⟩
      · rw [List.set_eq_of_length_le (Nat.le_of_not_lt hv)]
        exact ⟨g', st', s'⟩
    · exact ⟨g', st', s'⟩
end

/-! ### the block of a comprehension -/
def bodyC (prog : Program) (w : World) (K : PySem.W.Frag) (mg : Str → Option Value) (base : Heap) (N : List Str) (sc : Scope) (k : Nat) (F : Hp) (A : List Addr) (H : Hp) : Ctx where
  prog := prog
  w := w
  K := K
  mg := mg
  base := base
  N := N
  sc := sc
  fb := fun _ => true
  k := k
  F0 := F
  A0 := A
  H0 := H
  W := fun _ _ _ _ => False
  XR := fun _ _ _ _ _ _ => True
def bx (C : Ctx) (scope : Scope) : Ctx := { C with sc := relS scope C.sc, fb := fun x => scope.names.lookup x == some .cell, W := fun _ _ _ _ => False }
section
variable {C : Ctx} {ρ : Env} {S : Store} {σ : L2.St} {g : Gs} {scope : Scope}
theorem Stt.to_bx (st : Stt C ρ S σ g) : Stt (bx C scope) ρ S σ g := by
  refine ⟨st.go, st.wd, st.len, fun i sl h => ?_, st.pr, st.dis, st.out⟩
  have := st.at_ i sl h
  cases sl <;> exact this
theorem Stt.of_bx (st : Stt (bx C scope) ρ S σ g) : Stt C ρ S σ g := by
  refine ⟨st.go, st.wd, st.len, fun i sl h => ?_, st.pr, st.dis, st.out⟩
  have := st.at_ i sl h
  cases sl <;> exact this
theorem GLe.of_bx {g' : Gs} (h : GLe (bx C scope) g g') : GLe C g g' := ⟨h.le, h.track, h.kp⟩
theorem lc_bx {X : Cx} (L : Lc C X) (s : Shared) (H : Hp) (c : Addr) (cl : List (Str × Addr)) (fp : List Addr) : Lc (bx C scope) (X.blk s H scope (compEnvC scope cl c X.env) fp) := by
  refine ⟨L.prog, L.w, L.K, L.mg, L.base, L.N, ?_, L.nd, L.calm, L.room, fun x h => h, PassesOwn.never⟩
  show _ = relS scope C.sc
  rw [← L.sc]
  rfl
end
def DTs (C : Ctx) (ifs : List Expr) (m : M Bool) : Prop :=
  ∃ t, (∀ X, Lc C X → PTs X ifs t) ∧ ∀ ρ S σ g Q, Stt C ρ S σ g → PostG C g σ (fun _ _ b v => v = b) (m ρ S) Q → t σ g.H Q
def mYes : M Bool := M.ret true
theorem dts_nil {C : Ctx} : DTs C [] mYes := ⟨tYes, fun _ _ => pts_nil, fun ρ S σ g Q st h => h true g st (GLe.refl _ _) rfl⟩
theorem dts_one {C : Ctx} {c : Expr} {m : M Bool} (h : DT C c m) : DTs C [c] m := by
  obtain ⟨t, ht, hs⟩ := h
  exact ⟨t, fun X L => pts_one (ht X L), hs⟩
def lcL (vs : List Nat) (mt : D → M Fl) (tt : M Bool) (te : M D) : List D → M (List D)
  | [] => fun ρ S => .ok [] ρ S
  | d :: ds => fun ρ S => match mt d (wipeE ρ vs) S with
    | .ok .nx ρ1 S1 => (match tt ρ1 S1 with
      | .ok true ρ2 S2 => (match te ρ2 S2 with
        | .ok y ρ3 S3 => (match lcL vs mt tt te ds ρ3 S3 with
          | .ok ys ρ4 S4 => .ok (y :: ys) ρ4 S4
          | _ => .bad)
        | _ => .bad)
      | .ok false ρ2 S2 => lcL vs mt tt te ds ρ2 S2
      | _ => .bad)
    | _ => .bad
def mLC (vs : List Nat) (mi : M (List D)) (mt : D → M Fl) (tt : M Bool) (te : M D) : M RV := mi.bind fun ds => fun ρ S =>
  if ds.length < 10000000 then (match lcL vs mt tt te ds ρ S with
    | .ok ys ρ1 S1 => .ok (.own ys) (restE ρ (wipeE ρ1 vs) vs) S1
    | _ => .bad) else .bad
theorem wipe_out {vs : List Nat} {σ σ' : L2.St} (hl : σ'.length = σ.length) (h : ∀ k, k ∉ vs → σ'[k]? = σ[k]?) : wipe σ' vs = wipe σ vs := by
  refine List.ext_getElem? fun i => ?_
  by_cases m : i ∈ vs
  · have z : ∀ σ1 : L2.St, (wipe σ1 vs)[i]? = if i < σ1.length then some none else none := fun σ1 => by
      by_cases hi : i < σ1.length
      · rw [if_pos hi]
        have : i < (wipe σ1 vs).length := by rw [wipe_length]; exact hi
        rw [List.getElem?_eq_getElem this]
        cases e : (wipe σ1 vs)[i] with
        | none => rfl
        | some x =>
          exact absurd m (wipe_some (σ := σ1) (i := i) (x := x) (vs := vs) (by rw [List.getElem?_eq_getElem this, e])).2
      · rw [if_neg hi]
        exact List.getElem?_eq_none (by rw [wipe_length]; omega)
    rw [z, z, hl]
  · rw [wipe_get m, wipe_get m]; exact h i m
theorem wipe_wipe (σ : L2.St) (vs : List Nat) : wipe (wipe σ vs) vs = wipe σ vs := wipe_out (wipe_length σ vs) fun k h => wipe_get h
section
variable {C : Ctx} {elt tg iter : Expr} {ifs : List Expr} {scope : Scope} {own : List (Str × Nat)} {pos : Pos}
theorem cap_lt {n : Nat} (h : n < 10000000) : n < sizeLine := Nat.lt_of_lt_of_le h (by decide)
theorem lc_read {vs : List Nat} {mi : M (List D)} {mt : D → M Fl} {tt : M Bool} {te : M D} {us : List Nat} {wi : TI} {t : TG} {t1 : TT} {t2 : TE}
    (hu : ∀ u, u ∈ us → u ∈ vs)
    (si : ∀ ρ S σ g (Rk : It → Hp → Prop), Stt C ρ S σ g → PostG C g σ (fun _ g' ds J => ItD C g' J ds) (mi ρ S) Rk → wi σ g.H Rk)
    (sg : ∀ ρ S σ g d v Q, Stt (bx C scope) ρ S σ g → R C.K g.F g.A d v → TPost (bx C scope) g σ us (mt d ρ S) Q → t v σ g.H Q)
    (s1 : ∀ ρ S σ g Q, Stt (bx C scope) ρ S σ g → PostG (bx C scope) g σ (fun _ _ b v => v = b) (tt ρ S) Q → t1 σ g.H Q)
    (s2 : ∀ ρ S σ g Q, Stt (bx C scope) ρ S σ g → PostG (bx C scope) g σ (fun _ g d v => R C.K g.F g.A d v) (te ρ S) Q → t2 σ g.H Q) :
    ∀ ρ S σ g Q, Stt C ρ S σ g → PostG C g σ (RVR C) (mLC vs mi mt tt te ρ S) Q → tLc wi t t1 t2 vs σ g.H Q := fun ρ S σ g Q st h => by
  refine si ρ S σ g _ st (postG_bind h fun ds ρ0 S0 J g1 _ st1 le1 it h1 => ?_)
  obtain ⟨n, G, Y, w, en, hG, hY⟩ := it
  by_cases hlen : ds.length < 10000000
  · rw [if_pos hlen] at h1
    cases eL : lcL vs mt tt te ds ρ0 S0 with
    | ok zs ρe Se =>
      rw [eL] at h1
      intro D hD
      refine lc_it w (fun i H' => ∃ ρ' S' σ' g' acc us' ys, H' = g'.H ∧ Stt C ρ' S' σ' g' ∧ σ'.length = σ.length ∧ wipe σ' vs = wipe σ vs ∧ GLe C g1 g' ∧ Free C g' D ∧ g'.H D = some (.lst us') ∧ Rs C.K g'.F g'.A acc us' ∧ acc.length ≤ i ∧ lcL vs mt tt te (ds.drop i) ρ' S' = .ok ys ρe Se ∧ zs = acc ++ ys) ?_ ?_ ?_ ?_
      · exact ⟨ρ0, S0, σ, g1.pv D (.lst []), [], [], zs, rfl, st1.priv hD, rfl, rfl, Stt.le_pv hD, st1.free hD, upd_same, Rs_nil.mpr rfl, Nat.zero_le _, by rw [List.drop_zero]; exact eL, rfl⟩
      · rintro i H' _ ⟨ρ', S', σ', g', acc, us', ys, rfl, st', hl', hw', le', fD, hD', rD, ha, eq', ez⟩
        exact hG g' le'.le st'.wd.sub
      · rintro i x H' H2 hin ⟨ρ', S', σ', g', acc, us', ys, rfl, st', hl', hw', le', fD, hD', rD, ha, eq', ez⟩ y
        obtain ⟨g2, d, hd, rfl, st2, le2, r2⟩ := hY ρ' S' σ' g' i x H2 st' le'.le hin y
        have hl : i < ds.length := by rw [en]; exact hin
        have hdrop : ds.drop i = d :: ds.drop (i + 1) := by
          rw [List.drop_eq_getElem_cons hl]
          rw [List.getElem?_eq_getElem hl] at hd
          cases hd; rfl
        rw [hdrop] at eq'
        obtain ⟨g3, st3, s3⟩ := st2.wipe2 vs
        have h3 : g3.H = g2.H := s3.H
        obtain ⟨hD2, fD2⟩ := le2.kp D _ fD hD'
        have fD3 := s3.fr D fD2
        have hD3 : g3.H D = some (.lst us') := by rw [h3]; exact hD2
        have r3 : R C.K g3.F g3.A d x := by rw [s3.F, s3.A]; exact r2
        rw [← hw', ← h3]
        have le3 : GLe C g' g3 := le2.trans s3.gle
        refine sg (wipeE ρ' vs) S' (wipe σ' vs) g3 d x _ st3.to_bx r3 ?_
        unfold lcL at eq'
        cases e1 : mt d (wipeE ρ' vs) S' with
        | ok f ρ4 S4 =>
          rw [e1] at eq'
          cases f with
          | nx =>
            intro σ4 g4 st4 le4 eh fr4 el4 ek4
            have hw4 : wipe σ4 vs = wipe (wipe σ' vs) vs := wipe_out el4 fun k hk => ek4 k fun m => hk (hu k m)
            refine ⟨by rw [hw4, wipe_wipe], ?_⟩
            dsimp only at eq'
            have fD4 : Free (bx C scope) g4 D := fr4 D fD3
            have hD4 : g4.H D = some (.lst us') := by rw [eh]; exact hD3
            have le4' : GLe C g3 g4 := ⟨le4, fun a o ho => ⟨o, by rw [eh]; exact ho⟩, fun a o f ho => ⟨by rw [eh]; exact ho, fr4 a f⟩⟩
            refine s1 ρ4 S4 σ4 g4 _ st4 ?_
            cases e2 : tt ρ4 S4 with
            | ok b ρ5 S5 =>
              rw [e2] at eq'
              intro v g5 st5 le5 ev
              subst ev
              have le5' := le5.of_bx
              obtain ⟨hD5, fD5⟩ := le5'.kp D _ fD4 hD4
              cases v with
              | true =>
                rw [if_pos rfl]
                dsimp only at eq'
                refine s2 ρ5 S5 σ4 g5 _ st5 ?_
                cases e3 : te ρ5 S5 with
                | ok y ρ6 S6 =>
                  rw [e3] at eq'
                  intro u g6 st6 le6 r6
                  dsimp only at eq'
                  have le6' := le6.of_bx
                  obtain ⟨hD6, fD6⟩ := le6'.kp D _ fD5 hD5
                  cases e4 : lcL vs mt tt te (ds.drop (i + 1)) ρ6 S6 with
                  | ok ys2 ρ7 S7 =>
                    rw [e4] at eq'
                    cases eq'
                    have leT : GLe C g' g6 := ((le3.trans le4').trans le5').trans le6'
                    have hlen' : us'.length < sizeLine := by rw [← Rs_len rD]; exact cap_lt (by omega)
                    refine ⟨us', hD6, hlen', ρ6, S6, σ4, g6.pv D (.lst (us' ++ [u])), acc ++ [y], us' ++ [u], ys2, rfl, st6.of_bx.alterF hD6 fD6, ?_, ?_, ?_, fD6, upd_same, Rs_append (Rs_mono leT.le _ _ rD) (Rs_one r6), ?_, e4, ?_⟩
                    · rw [el4, wipe_length, hl']
                    · rw [hw4, wipe_wipe, hw']
                    · have q := le'.trans leT
                      refine ⟨q.le, fun a o ho => ?_, fun a o f ho => ?_⟩
                      · by_cases z : a = D
                        · subst z; rw [hD] at ho; cases ho
                        · obtain ⟨o', h'⟩ := q.track a o ho
                          exact ⟨o', by show upd g6.H D _ a = _; rw [upd_ne z]; exact h'⟩
                      · by_cases z : a = D
                        · subst z; rw [hD] at ho; cases ho
                        · obtain ⟨h', f'⟩ := q.kp a o f ho
                          exact ⟨by show upd g6.H D _ a = _; rw [upd_ne z]; exact h', f'⟩
                    · simp; omega
                    · rw [ez]; simp
                  | exc x ρ7 S7 => rw [e4] at eq'; cases eq'
                  | bad => rw [e4] at eq'; cases eq'
                | exc x ρ6 S6 => rw [e3] at eq'; cases eq'
                | bad => rw [e3] at eq'; cases eq'
              | false =>
                rw [if_neg Bool.false_ne_true]
                dsimp only at eq'
                have leT : GLe C g' g5 := (le3.trans le4').trans le5'
                exact ⟨ρ5, S5, σ4, g5, acc, us', ys, rfl, st5.of_bx, by rw [el4, wipe_length, hl'], by rw [hw4, wipe_wipe, hw'], le'.trans leT, fD5, hD5, Rs_mono leT.le _ _ rD, by omega, eq', ez⟩
            | exc x ρ5 S5 => rw [e2] at eq'; cases eq'
            | bad => rw [e2] at eq'; cases eq'
          | _ => cases eq'
        | exc x ρ4 S4 => rw [e1] at eq'; cases eq'
        | bad => rw [e1] at eq'; cases eq'
      · rintro H' ⟨ρ', S', σ', g', acc, us', ys, rfl, st', hl', hw', le', fD, hD', rD, ha, eq', ez⟩
        rw [← en, List.drop_length] at eq'
        unfold lcL at eq'
        cases eq'
        rw [List.append_nil] at ez
        subst ez
        obtain ⟨g3, st3, s3⟩ := st'.wipe2 vs
        have st4 := st3.swap (σ' := σ) hl'.symm hw'.symm
        obtain ⟨g4, st5, s5⟩ := st4.rest st1 (by rw [s3.F, s3.A]; exact le'.le) vs
        have sT := s3.trans s5
        have fD4 := sT.fr D fD
        have := h1 (.ref D) g4 st5 (le'.trans sT.gle) ⟨[D], fun a ha => by rw [List.mem_singleton] at ha; subst ha; exact ⟨fD4, hD⟩, D, us', rfl, rfl, by rw [sT.H]; exact hD', by rw [sT.F, sT.A]; exact rD⟩
        rw [sT.H] at this
        exact this
    | exc x ρe Se => rw [eL] at h1; exact h1.elim
    | bad => rw [eL] at h1; exact h1.elim
  · rw [if_neg hlen] at h1; exact h1.elim
theorem do_lc {mi : M (List D)} {mt : D → M Fl} {tt : M Bool} {te : M D} {us : List Nat} (hi : DI C tg iter mi) (ok : blkC C.N C.sc scope own = true := by dsimp only [bodyC, bx]; decide +kernel) (hg : DG (bx C scope) tg us mt) (hu : us.all (fun u => (own.map (·.2)).contains u) = true := by rfl) (h1 : DTs (bx C scope) ifs tt) (h2 : DE (bx C scope) elt te) (hs : ∀ (X : Cx) x, foldedSetIterable iter X.env x = pure x := by intros; rfl) :
    DO C (.ListComp elt [⟨tg, iter, ifs, 0⟩] scope pos) (mLC (own.map (·.2)) mi mt tt te) := by
  obtain ⟨wi, hi, si⟩ := hi
  obtain ⟨t, ht, sg⟩ := hg
  obtain ⟨t1, ht1, s1⟩ := h1
  obtain ⟨t2, ht2, s2⟩ := h2
  refine ⟨tLc wi t t1 t2 (own.map (·.2)), fun X L => pe_lc L.calm (by rw [L.N]; exact L.nd) (hi X L) (by rw [L.N, L.sc]; exact blkOk_by ok) (fun s H c cl fp => ht _ (lc_bx L s H c cl fp)) (fun s H c cl fp => ht1 _ (lc_bx L s H c cl fp)) (fun s H c cl fp => ht2 _ (lc_bx L s H c cl fp)) (hs X), lc_read (fun u m => ?_) si sg s1 s2⟩
  have := List.all_eq_true.mp hu u m
  simpa using this
theorem ds_setLc {mi : M (List D)} {mt : D → M Fl} {tt : M Bool} {te : M D} {us : List Nat} {y : Str} {py spos : Pos} (i : Nat) (hy : C.N[i]? = some y := by rfl) (hyl : C.sc.names.lookup y = some .local := by rfl) (hkf : C.sc.kind = .function := by rfl) (hll : (py.line == pos.line) = true := by rfl) (hal : (scope.names.any fun (n, k) => n == y && (k == .local || k == .cell)) = false := by decide +kernel)
    (hi : DI C tg iter mi) (ok : blkC C.N C.sc scope own = true := by dsimp only [bodyC, bx]; decide +kernel) (hg : DG (bx C scope) tg us mt) (hu : us.all (fun u => (own.map (·.2)).contains u) = true := by rfl) (h1 : DTs (bx C scope) ifs tt) (h2 : DE (bx C scope) elt te) (hs : ∀ (X : Cx) x, foldedSetIterable iter X.env x = pure x := by intros; rfl) :
    DS C (.Assign [.Name y py] (.ListComp elt [⟨tg, iter, ifs, 0⟩] scope pos) spos) (sSet i (mLC (own.map (·.2)) mi mt tt te)) := by
  obtain ⟨wi, hi, si⟩ := hi
  obtain ⟨t, ht, sg⟩ := hg
  obtain ⟨t1, ht1, s1⟩ := h1
  obtain ⟨t2, ht2, s2⟩ := h2
  refine ⟨tAsg (tLc wi t t1 t2 (own.map (·.2))) (gName i), fun X L => ps_setLc L.calm (by rw [L.N]; exact L.nd) (by rw [L.N]; exact hy) (by rw [L.sc]; exact hyl) (sw_true (by rw [L.sc]; exact hkf) (by rw [L.sc]; exact hyl) hll hal) (hi X L) (by rw [L.N, L.sc]; exact blkOk_by ok) (fun s H c cl fp => ht _ (lc_bx L s H c cl fp)) (fun s H c cl fp => ht1 _ (lc_bx L s H c cl fp)) (fun s H c cl fp => ht2 _ (lc_bx L s H c cl fp)) (hs X), set_core (lc_read (fun u m => ?_) si sg s1 s2)⟩
  have := List.all_eq_true.mp hu u m
  simpa using this
end
end Thr
namespace Thr
open PySem PySem.Spec PyProof.Rows L2

/-! ### a def -/
def RV.out : RV → RV
  | .ow2 t xss => .val (RV.ow2 t xss).toD
  | r => r
def mDef (np n : Nat) (m : M Fl) : MF := fun ds S => if ds.length = np then
    match m (ds.map Sl.val ++ List.replicate (n - ds.length) Sl.un) S with
    | .ok .nx _ S' => .ok (.val .non) S'
    | .ok (.rt r) _ S' => .ok r.out S'
    | _ => .bad
  else .bad
section
variable {prog : Program} {w : World} {K : PySem.W.Frag} {mg : Str → Option Value} {base : Heap}
theorem start_at {K : PySem.W.Frag} {F : Hp} {A : List Addr} {n : Nat} : ∀ {ds : List D} {vs : List V}, Rs K F A ds vs → ∀ (i : Nat) sl, (ds.map Sl.val ++ List.replicate n Sl.un)[i]? = some sl → sl = .un ∨ ∃ d v, sl = .val d ∧ (vs.map some ++ List.replicate n none)[i]? = some (some v) ∧ R K F A d v
  | [], vs, h, i, sl, e => by
    rw [List.map_nil, List.nil_append, List.getElem?_replicate] at e
    split at e
    · cases e; exact .inl rfl
    · cases e
  | d :: ds, vs, h, 0, sl, e => by
    obtain ⟨v, r, rfl, h1, h2⟩ := Rs_cons.mp h
    simp at e
    exact .inr ⟨d, v, e.symm, by simp, h1⟩
  | d :: ds, vs, h, i + 1, sl, e => by
    obtain ⟨v, r, rfl, h1, h2⟩ := Rs_cons.mp h
    simp only [List.map_cons, List.cons_append, List.getElem?_cons_succ] at e
    rcases start_at h2 i sl e with q | ⟨d', v', q1, q2, q3⟩
    · exact .inl q
    · exact .inr ⟨d', v', q1, by simpa using q2, q3⟩
theorem def0_ok {x qual : Str} {st : Stmt} {f : Addr} {fd : FuncData} {N ps : List Str} {k : Nat} {m : M Fl} (F : Fun K x qual st f fd) (S : FnScope N ps (defScope st)) (hm : mg x = some (.ref f)) (hb : Binds K fd ps [])
    (hbody : ∀ F0 A0 H0, DSs (bodyC prog w K mg base N (defScope st) k F0 A0 H0) (defBody st) m) : Def0 prog w K mg base x (k + 1) ps (mDef ps.length N.length m) := by
  have lk : ∃ oc od osl, K.lookup f = some ⟨oc, od, .func fd, osl⟩ := by
    obtain ⟨oc, od, _, _, _, _, _, _, osl, rfl, l, _⟩ := F.ex
    exact ⟨_, _, _, l⟩
  refine ⟨f, fd, hm, F.kp, hb, ?_, lk⟩
  have len : ∀ vs H Q E, sp0 K (mDef ps.length N.length m) vs H Q E → vs.length = ps.length := by
    rintro vs H Q E ⟨F0, A0, ds, S0, W, r, h⟩
    unfold mDef at h
    by_cases e : ds.length = ps.length
    · rw [← Rs_len r, e]
    · rw [if_neg e] at h; exact h.elim
  refine F.ok S len fun cdv A outer s H vs Q E hr h => ?_
  have hl := len vs H Q E h
  obtain ⟨F0, A0, ds, S0, W, r, h⟩ := h
  obtain ⟨t, ht, hs⟩ := hbody F0 A0 H
  refine ⟨t, ht _ ⟨rfl, rfl, rfl, rfl, rfl, rfl, rfl, S.nd, rfl, hr, fun _ _ => rfl, PassesOwn.never⟩, ?_⟩
  have hdl := Rs_len r
  unfold mDef at h
  rw [if_pos (by rw [hdl, hl])] at h
  have st : Stt (bodyC prog w K mg base N (defScope st) k F0 A0 H) (ds.map Sl.val ++ List.replicate (N.length - ds.length) Sl.un) S0 (L2.start N vs) ⟨F0, A0, H, fun _ => []⟩ := by
    refine ⟨Go.refl, W, ?_, fun i sl e => ?_, fun i a ha => by simp at ha, fun i j a ha => by simp at ha, fun _ _ => rfl⟩
    · unfold L2.start; simp [hdl]
    · have e' := start_at (n := N.length - ds.length) r i sl e
      rcases e' with q | ⟨d, v, q1, q2, q3⟩
      · subst q; rfl
      · subst q1
        refine ⟨rfl, v, ?_, q3⟩
        have : (L2.start N vs)[i]? = some (some v) := by unfold L2.start; rw [← hdl]; exact q2
        rw [this]; rfl
  refine hs _ S0 _ _ _ st ?_
  cases e : m (ds.map Sl.val ++ List.replicate (N.length - ds.length) Sl.un) S0 with
  | ok fl ρ' S' =>
    rw [e] at h
    cases fl with
    | nx => exact fun σ' g' st' le' => h .non g'.F g'.A g'.H st'.wd st'.go (show R K g'.F g'.A .non .non from R_non.mpr rfl)
    | rt rv =>
      intro σ' g' v st' ⟨p, pr, sl⟩
      dsimp only at h
      cases rv with
      | val d =>
        obtain ⟨_, u, e1, e2⟩ := sl
        cases e1
        exact h v g'.F g'.A g'.H st'.wd st'.go e2
      | own xs =>
        obtain ⟨a, us, rfl, e1, e2, e3⟩ := sl
        cases e1
        have q := (pr a (by simp)).1
        exact h _ g'.F g'.A g'.H st'.wd st'.go ⟨a, us, rfl, q.1, q.2.1, q.2.2, e2, e3⟩
      | owd ks xs =>
        obtain ⟨a, us, rfl, e1, e2, e3, e4⟩ := sl
        cases e1
        have q := (pr a (by simp)).1
        exact h _ g'.F g'.A g'.H st'.wd st'.go ⟨a, us, rfl, q.1, q.2.1, q.2.2, e2, e3, e4⟩
      | ow2 t xss =>
        obtain ⟨F', st2, le2, r2, _⟩ := sl_freeze st' (rv := .ow2 t xss) pr sl
        exact h v F' g'.A g'.H st2.wd st2.go r2
    | _ => exact h.elim
  | exc x ρ' S' => rw [e] at h; exact h.elim
  | bad => rw [e] at h; exact h.elim
end

/-! ### a list of one's own becomes a cell -/
def M.cel (m : M RV) : M D := m.bind fun rv => fun ρ S => match rv with
  | .own xs => .ok (.cel S.length) ρ (S ++ [.lst xs])
  | _ => .bad
section
variable {C : Ctx} {ρ : Env} {S : Store} {σ : L2.St} {g g0 : Gs}
theorem Stt.cell_new (st : Stt C ρ S σ g) {a : Addr} {xs : List D} {vs : List V} (f : Free C g a) (h : g.H a = some (.lst vs)) (r : Rs C.K g.F g.A xs vs) : Stt C ρ (S ++ [.lst xs]) σ ⟨g.F, g.A ++ [a], g.H, g.P⟩ ∧ Le g.F g.A g.F (g.A ++ [a]) := by
  obtain ⟨⟨p1, p2, p3⟩, p4⟩ := f
  have le : Le g.F g.A g.F (g.A ++ [a]) := ⟨Ex.refl _, fun n b hb => by rw [List.getElem?_append_left (List.getElem?_eq_some_iff.mp hb).1]; exact hb⟩
  refine ⟨⟨⟨st.go.le.trans le, st.go.keep, st.go.fresh, fun b hb => ?_, st.go.track⟩, ⟨st.wd.sub, by simp [st.wd.len], ?_, fun b hb => ?_, fun n c b hc hb => ?_⟩, st.len, fun i sl hi => SlR_mono le (fun _ _ _ u => u) (st.at_ i sl hi), fun i b hb => ?_, st.dis, st.out⟩, le⟩
  · rcases List.mem_append.mp hb with q | q
    · exact st.go.newA b q
    · rw [List.mem_singleton] at q; subst q; exact .inr p3
  · rw [List.nodup_append]
    refine ⟨st.wd.nd, by simp, fun x hx y hy => ?_⟩
    rw [List.mem_singleton] at hy; subst hy
    exact fun z => p2 (z ▸ hx)
  · rcases List.mem_append.mp hb with q | q
    · exact st.wd.fr b q
    · rw [List.mem_singleton] at q; subst q; exact p1
  · by_cases hn : n < S.length
    · rw [List.getElem?_append_left hn] at hc
      rw [List.getElem?_append_left (by rw [st.wd.len]; exact hn)] at hb
      exact CellR_mono le (fun _ u => u) (st.wd.cel n c b hc hb)
    · have : n = S.length := by
        have := (List.getElem?_eq_some_iff.mp hc).1
        simp at this; omega
      subst this
      rw [List.getElem?_append_right (Nat.le_refl _)] at hc
      rw [← st.wd.len, List.getElem?_append_right (Nat.le_refl _)] at hb
      simp at hc hb
      subst hc hb
      exact ⟨vs, h, Rs_mono le _ _ r⟩
  · obtain ⟨q1, q2, q3⟩ := st.pr i b hb
    refine ⟨q1, fun z => ?_, q3⟩
    rcases List.mem_append.mp z with q | q
    · exact q2 q
    · rw [List.mem_singleton] at q; subst q; exact p4 i hb
theorem DE.cel {e : Expr} {m : M RV} (h : DO C e m) : DE C e m.cel := by
  obtain ⟨t, ht, hs⟩ := h
  refine ⟨t, ht, fun ρ S σ g Q st h => hs ρ S σ g Q st ?_⟩
  unfold M.cel M.bind at h
  cases e : m ρ S with
  | ok rv ρ1 S1 =>
    rw [e] at h
    cases rv with
    | own xs =>
      rintro v g1 st1 le1 ⟨p, pr, a, vs, rfl, ev, ha, r⟩
      cases ev
      obtain ⟨f, hn⟩ := pr a (by simp)
      obtain ⟨st2, le2⟩ := st1.cell_new f ha r
      have gle : GLe C g ⟨g1.F, g1.A ++ [a], g1.H, g1.P⟩ := by
        refine ⟨le1.le.trans le2, le1.track, fun b o fb hb => ?_⟩
        obtain ⟨h1, f1⟩ := le1.kp b o fb hb
        refine ⟨h1, ⟨f1.1.1, fun z => ?_, f1.1.2.2⟩, f1.2⟩
        rcases List.mem_append.mp z with q | q
        · exact f1.1.2.1 q
        · rw [List.mem_singleton] at q; subst q; rw [hn] at hb; cases hb
      exact h (.ref a) ⟨g1.F, g1.A ++ [a], g1.H, g1.P⟩ st2 gle (R_cel.mpr ⟨a, rfl, by
        show (g1.A ++ [a])[S1.length]? = some a
        rw [← st1.wd.len, List.getElem?_append_right (Nat.le_refl _)]
        simp⟩)
    | _ => exact h.elim
  | exc x ρ1 S1 => rw [e] at h; exact h
  | bad => rw [e] at h; exact h
/-- a cell is written -/
theorem Stt.cell (st : Stt C ρ S σ g) {n : Nat} {a : Addr} {xs ys : List D} {vs : List V} (hS : S[n]? = some (.lst xs)) (hA : g.A[n]? = some a) (r : Rs C.K g.F g.A ys vs) :
    Stt C ρ (S.set n (.lst ys)) σ (g.pv a (.lst vs)) ∧ GLe C g (g.pv a (.lst vs)) := by
  have hm : a ∈ g.A := List.mem_of_getElem? hA
  obtain ⟨us, hH, _⟩ := st.wd.cel n _ a hS hA
  have tr : ∀ (b : Addr) o, g.H b = some o → ∃ o', upd g.H a (.lst vs) b = some o' := fun b o hb => by
    by_cases z : b = a
    · subst z; exact ⟨_, upd_same⟩
    · exact ⟨o, by rw [upd_ne z]; exact hb⟩
  refine ⟨⟨⟨st.go.le, fun b u hb nb => ?_, st.go.fresh, st.go.newA, fun b u hb => ?_⟩, ⟨fun b u hb => ?_, by rw [List.length_set]; exact st.wd.len, st.wd.nd, st.wd.fr, fun k c b hc hb => ?_⟩, st.len, fun i sl hi => SlR_mono (Le.refl _ _) (fun b hb u hu => ?_) (st.at_ i sl hi), st.pr, st.dis, st.out⟩, ⟨Le.refl _ _, fun b o hb => tr b o hb, fun b o f hb => ⟨?_, f⟩⟩⟩
  · have hne : b ≠ a := fun z => by
      subst z
      rcases st.go.newA b hm with q | q
      · exact nb q
      · rw [hb] at q; cases q
    show upd g.H a _ b = some u
    rw [upd_ne hne]; exact st.go.keep b u hb nb
  · obtain ⟨o', h'⟩ := st.go.track b u hb
    exact tr b o' h'
  · have hne : b ≠ a := fun z => by
      subst z
      have q : g.F b = some u := hb
      rw [st.wd.fr b hm] at q; cases q
    show upd g.H a _ b = some u
    rw [upd_ne hne]; exact st.wd.sub b u hb
  · by_cases z : k = n
    · subst z
      have hk : k < S.length := (List.getElem?_eq_some_iff.mp hS).1
      rw [List.getElem?_set_self hk] at hc
      have hb' : g.A[k]? = some b := hb
      rw [hA] at hb'
      cases hc; cases hb'
      exact ⟨vs, upd_same, r⟩
    · rw [List.getElem?_set_ne (Ne.symm z)] at hc
      have hne : b ≠ a := fun q => by
        subst q
        have hb' : g.A[k]? = some b := hb
        exact z (List.getElem?_inj (List.getElem?_eq_some_iff.mp hb').1 st.wd.nd |>.mp (hb'.trans hA.symm))
      exact CellR_mono (Le.refl _ _) (fun u hu => by show upd g.H a _ b = _; rw [upd_ne hne]; exact hu) (st.wd.cel k c b hc hb)
  · have hne : b ≠ a := fun z => by subst z; exact (st.pr i b hb).2.1 hm
    show upd g.H a _ b = _
    rw [upd_ne hne]; exact hu
  · have hne : b ≠ a := fun z => by subst z; exact f.1.2.1 hm
    show upd g.H a _ b = _
    rw [upd_ne hne]; exact hb

/-! ### a slot's list, or a cell, becomes another list -/
/-- what list a place holds -/
def lstAt (p : Pk) (ρ : Env) (S : Store) : Option (List D) := match p with
  | .slot i => match ρ[i]? with
    | some (.own xs) => some xs
    | some (.val (.cel n)) => match S[n]? with
      | some (.lst xs) => some xs
      | _ => none
    | _ => none
  | .val (.cel n) => match S[n]? with
    | some (.lst xs) => some xs
    | _ => none
  | _ => none
def putAt (p : Pk) (ys : List D) (ρ : Env) (S : Store) : Env × Store := match p with
  | .slot i => match ρ[i]? with
    | some (.own _) => (ρ.set i (.own ys), S)
    | some (.val (.cel n)) => (ρ, S.set n (.lst ys))
    | _ => (ρ, S)
  | .val (.cel n) => (ρ, S.set n (.lst ys))
  | _ => (ρ, S)
theorem cell_at (st : Stt C ρ S σ g) {n : Nat} {xs : List D} (hS : S[n]? = some (.lst xs)) : ∃ a vs, g.A[n]? = some a ∧ g.H a = some (.lst vs) ∧ Rs C.K g.F g.A xs vs := by
  have hl : n < g.A.length := by rw [st.wd.len]; exact (List.getElem?_eq_some_iff.mp hS).1
  obtain ⟨us, h1, h2⟩ := st.wd.cel n _ g.A[n] hS (List.getElem?_eq_getElem hl)
  exact ⟨_, us, List.getElem?_eq_getElem hl, h1, h2⟩
theorem place (st : Stt C ρ S σ g) {p : Pk} {v : V} {xs : List D} (hp : PkR C.K σ g p v) (e : lstAt p ρ S = some xs) : ∃ a vs, v = .ref a ∧ g.H a = some (.lst vs) ∧ Rs C.K g.F g.A xs vs ∧
    ∀ ys us, Rs C.K g.F g.A ys us → ∃ g', Stt C (putAt p ys ρ S).1 (putAt p ys ρ S).2 σ g' ∧ GLe C g g' ∧ g'.H = upd g.H a (.lst us) := by
  have cell : ∀ n, S[n]? = some (.lst xs) → R C.K g.F g.A (.cel n) v → ∃ a vs, v = .ref a ∧ g.H a = some (.lst vs) ∧ Rs C.K g.F g.A xs vs ∧ ∀ ys us, Rs C.K g.F g.A ys us → ∃ g', Stt C ρ (S.set n (.lst ys)) σ g' ∧ GLe C g g' ∧ g'.H = upd g.H a (.lst us) := fun n hS r => by
    obtain ⟨a, rfl, ha⟩ := R_cel.mp r
    obtain ⟨b, vs, hb, h1, h2⟩ := cell_at st hS
    rw [ha] at hb; cases hb
    exact ⟨a, vs, rfl, h1, h2, fun ys us q => ⟨_, (st.cell hS ha q).1, (st.cell hS ha q).2, rfl⟩⟩
  cases p with
  | val d =>
    unfold lstAt at e
    cases d with
    | cel n =>
      dsimp only at e
      cases hS : S[n]? with
      | none => rw [hS] at e; cases e
      | some c =>
        rw [hS] at e
        cases c with
        | lst zs => cases e; exact cell n hS hp
        | ins c fs => cases e
    | _ => cases e
  | slot i =>
    have hv : σ[i]? = some (some v) := hp
    unfold lstAt at e
    dsimp only at e
    cases hr : ρ[i]? with
    | none => rw [hr] at e; cases e
    | some sl =>
      rw [hr] at e
      have hi : i < ρ.length := (List.getElem?_eq_some_iff.mp hr).1
      cases sl with
      | own zs =>
        cases e
        have s0 := st.at_ i _ hr
        rw [hv] at s0
        obtain ⟨a, vs, h1, h2, h3, h4⟩ := s0
        cases h2
        have hP : g.P i = [a] := h1
        have pr := st.pr i a (by rw [hP]; simp)
        refine ⟨a, vs, rfl, h3, h4, fun ys us q => ⟨g.pv a (.lst us), ?_, ⟨Le.refl _ _, fun b o hb => ?_, fun b o f hb => ⟨?_, f⟩⟩, rfl⟩⟩
        · unfold putAt
          dsimp only
          rw [hr]
          dsimp only
          refine st.alter h3 pr (by rw [List.length_set]) (fun j hj => ?_) fun j sl hj hs => ?_
          · by_cases z : j = i
            · subst z; rw [hP] at hj; simp at hj
            · rw [List.getElem?_set_ne (Ne.symm z)]
          · have z : j = i := st.dis j i a hj (by rw [hP]; simp)
            subst z
            rw [List.getElem?_set_self hi] at hs
            cases hs
            rw [hv]
            exact ⟨a, us, hP, rfl, upd_same, q⟩
        · by_cases z : b = a
          · subst z; exact ⟨_, upd_same⟩
          · exact ⟨o, by show upd g.H a _ b = _; rw [upd_ne z]; exact hb⟩
        · have hne : b ≠ a := fun z => by subst z; exact f.2 i (by rw [hP]; simp)
          show upd g.H a _ b = _
          rw [upd_ne hne]; exact hb
      | val d =>
        cases d with
        | cel n =>
          dsimp only at e
          cases hS : S[n]? with
          | none => rw [hS] at e; cases e
          | some c =>
            rw [hS] at e
            cases c with
            | lst zs =>
              cases e
              obtain ⟨_, u, q1, q2⟩ := st.at_ i _ hr
              rw [hv] at q1
              cases q1
              have := cell n hS q2
              have e' : ∀ ys, putAt (.slot i) ys ρ S = (ρ, S.set n (.lst ys)) := fun ys => by
                unfold putAt
                dsimp only
                rw [hr]
              obtain ⟨a, vs, t1, t2, t3, t4⟩ := this
              exact ⟨a, vs, t1, t2, t3, fun ys us r => by rw [e']; exact t4 ys us r⟩
            | ins c fs => cases e
        | _ => cases e
      | _ => cases e
end

/-! ### x[i] = e -/
def ixD (n : Nat) : D → Option Nat
  | .int k => ixN n k
  | _ => none
def mStore (p : Pk) (k d : D) : M Fl := fun ρ S => match lstAt p ρ S with
  | some xs => match ixD xs.length k with
    | some j => .ok .nx (putAt p (xs.set j d) ρ S).1 (putAt p (xs.set j d) ρ S).2
    | none => .bad
  | none => .bad
def sSub (m : M D) (mo : M Pk) (mi : M D) : M Fl := m.bind fun d => mo.bind fun p => mi.bind fun k => mStore p k d
section
variable {C : Ctx} {e o i : Expr} {es : List Expr} {pos p1 p2 : Pos}
theorem ds_sub {m : M D} {mo : M Pk} {mi : M D} (he : DE C e m) (ho : DK C o mo) (hi : DE C i mi) (ha : ∀ (X : Cx) v, assign (.Subscript o i p1) X.env v = (do
      let ov ← holding [v] (eval o X.env)
      let iv ← holding [v, ov] (eval i X.env)
      standAt p1
      holding [v, ov, iv] (setItem ov iv v)
      release [v, ov, iv] []) := by intros; rfl) (hs : ∀ X : Cx, swapsWithSole [.Subscript o i p1] e pos.line X.env = pure false := by intros; rfl) (hw : ∀ X : Cx, swappedStores [.Subscript o i p1] e X.env = pure none := by intros; rfl)
    (h1 : ∀ X : Cx, (assignEach [.Subscript o i p1] X.env).map (·.2) = [assign (.Subscript o i p1) X.env] := by intros; rfl) : DS C (.Assign [.Subscript o i p1] e pos) (sSub m mo mi) := by
  obtain ⟨t, ht, s1⟩ := he
  obtain ⟨to, hto, so⟩ := ho
  obtain ⟨ti, hti, si⟩ := hi
  refine ⟨tAsg t (gSub to ti rSetL), fun X L => ps_asg (ht X L) (pg_sub (hto X L) (hti X L) set_list (ha X)) (hs X) (hw X) (h1 X), fun ρ S σ g Dn st h => ?_⟩
  have h' : SPost C g (sSub m mo mi ρ S) Dn := h
  unfold sSub at h
  have key : PostG C g σ (fun _ g' (f : Fl) (v : V) => f = .nx ∧ v = .non) (sSub m mo mi ρ S) (fun _ H => Dn.nx σ H) ∨ True := .inr trivial
  refine s1 ρ S σ g _ st ?_
  unfold M.bind at h
  cases e1 : m ρ S with
  | ok d ρ1 S1 =>
    rw [e1] at h
    dsimp only at h
    intro v g1 st1 le1 r1
    refine so ρ1 S1 σ g1 _ st1 ?_
    cases e2 : mo ρ1 S1 with
    | ok p ρ2 S2 =>
      rw [e2] at h
      dsimp only at h
      intro u g2 st2 le2 r2
      refine si ρ2 S2 σ g2 _ st2 ?_
      cases e3 : mi ρ2 S2 with
      | ok k ρ3 S3 =>
        rw [e3] at h
        dsimp only at h
        intro w g3 st3 le3 r3
        unfold mStore at h
        cases e4 : lstAt p ρ3 S3 with
        | none => rw [e4] at h; exact h.elim
        | some xs =>
          rw [e4] at h
          dsimp only at h
          cases e5 : ixD xs.length k with
          | none => rw [e5] at h; exact h.elim
          | some j =>
            rw [e5] at h
            cases k with
            | int z =>
              rw [R_int] at r3
              subst r3
              obtain ⟨a, vs, rfl, q1, q2, q3⟩ := place st3 (pk_mono le3 r2) e4
              have rd := R_mono (le2.trans le3).le _ _ r1
              obtain ⟨g4, st4, le4, eh⟩ := q3 (xs.set j d) (vs.set j v) (Rs_set q2 rd)
              refine ⟨a, vs, z, j, rfl, rfl, q1, by rw [← Rs_len q2]; exact e5, ?_⟩
              rw [← eh]
              exact h σ g4 st4 ((le1.trans le2).trans (le3.trans le4)).le
            | _ => cases e5
      | exc x ρ3 S3 => rw [e3] at h; exact fun cls dd g' st' xr => h σ cls dd g' st' xr
      | bad => rw [e3] at h; exact h.elim
    | exc x ρ2 S2 => rw [e2] at h; exact fun cls dd g' st' xr => h σ cls dd g' st' xr
    | bad => rw [e2] at h; exact h.elim
  | exc x ρ1 S1 => rw [e1] at h; exact fun cls dd g' st' xr => h σ cls dd g' st' xr
  | bad => rw [e1] at h; exact h.elim

/-! ### x.append(e) -/
def mApp (mo : M Pk) (m : M D) : M D := mo.bind fun p => M.bind (α := Unit) (fun ρ S => match lstAt p ρ S with
  | some _ => .ok () ρ S
  | none => .bad) fun _ => m.bind fun d => fun ρ S => match lstAt p ρ S with
  | some xs => if xs.length < 10000000 then .ok .non (putAt p (xs ++ [d]) ρ S).1 (putAt p (xs ++ [d]) ρ S).2 else .bad
  | none => .bad
theorem de_append {mo : M Pk} {m : M D} {name : Str} {apos : Pos} (hn : name = "append" := by rfl) (ho : DK C o mo) (he : DE C e m) (hb : ∀ X : Cx, attributeBase o name X.env (eval o X.env) = eval o X.env := by intros; rfl)
    (hf : ∀ X : Cx, ((backTo pos (starEach [e] X.env)).all (fun x => !x.1) && (backToKw pos (keywordEach [] X.env)).all (fun x => x.1.isSome) && decide ([e].length + ([] : List Keyword).length + (if ([] : List Keyword).isEmpty then 0 else 1) < 30)) = true := by intros; rfl)
    (hl : (apos.endLine == pos.line) = true := by rfl) (hs : ∀ X : Cx, starEach [e] X.env = (false, eval e X.env) :: starEach [] X.env := by intros; rfl) (hp : ∀ X : Cx, (backTo pos (starEach [] X.env)).any (·.1) = false := by intros; rfl) : DE C (.Call (.Attribute o name apos) [e] [] pos) (mApp mo m) := by
  subst hn
  obtain ⟨to, hto, so⟩ := ho
  obtain ⟨t, ht, s1⟩ := he
  refine ⟨tBM C.K "list" rAppend to (tCons t tNil), fun X L => by have := pe_bm PySem.F.plainAttrs_list PySem.F.slot_list_append PySem.F.type_list_append mt_append (hto X L) (pa_cons (ht X L) pa_nil (hs X)) (hb X) (hf X) hl (hs X) (hp X); rw [L.K] at this; exact this, fun ρ S σ g Q st h => so ρ S σ g _ st ?_⟩
  unfold mApp at h
  refine postG_bind h fun p ρ1 S1 v g1 _ st1 le1 r1 h1 => ?_
  unfold M.bind at h1
  dsimp only at h1
  cases e1 : lstAt p ρ1 S1 with
  | none => rw [e1] at h1; exact h1.elim
  | some xs0 =>
    rw [e1] at h1
    dsimp only at h1
    obtain ⟨a0, vs0, rfl, q1, _, _⟩ := place st1 r1 e1
    refine ⟨.inl ⟨rfl, vs0, SqL.of q1⟩, ?_⟩
    show t σ g1.H fun y H2 => tNil σ H2 fun ys H3 => rAppend (.ref a0) (y :: ys) H3 Q
    refine s1 ρ1 S1 σ g1 _ st1 ?_
    cases e2 : m ρ1 S1 with
    | ok d ρ2 S2 =>
      rw [e2] at h1
      dsimp only at h1
      intro u g2 st2 le2 r2
      cases e3 : lstAt p ρ2 S2 with
      | none => rw [e3] at h1; exact h1.elim
      | some xs =>
        rw [e3] at h1
        dsimp only at h1
        by_cases hz : xs.length < 10000000
        · rw [if_pos hz] at h1
          obtain ⟨a, vs, ea, q2, q3, q4⟩ := place st2 (pk_mono le2 r1) e3
          cases ea
          obtain ⟨g4, st4, le4, eh⟩ := q4 (xs ++ [d]) (vs ++ [u]) (Rs_append q3 (Rs_one r2))
          refine ⟨a0, vs, u, rfl, rfl, q2, by rw [← Rs_len q3]; exact cap_lt hz, ?_⟩
          rw [← eh]
          exact h1 .non g4 st4 (le2.trans le4) (R_non.mpr rfl)
        · rw [if_neg hz] at h1; exact h1.elim
    | exc x ρ2 S2 => rw [e2] at h1; exact h1
    | bad => rw [e2] at h1; exact h1.elim
end
end Thr
namespace Thr
open PySem PySem.Spec PyProof.Rows L2 RZ

/-! ### values and things of one's own in a row -/
def RVL (C : Ctx) (g0 g : Gs) : (Addr → Prop) → List RV → List V → Prop
  | _, [], vs => vs = []
  | U, r :: rs, vs => ∃ v vr p, vs = v :: vr ∧ (∀ a, a ∈ p → Free C g a ∧ g0.H a = none ∧ ¬ U a) ∧ SlR C g.F g.A g.H r.toSl (some v) p ∧ RVL C g0 g (fun a => a ∈ p ∨ U a) rs vr
theorem rvl_used {C : Ctx} {g0 g1 g : Gs} (le : GLe C g0 g1) : ∀ {rs : List RV} {vs : List V} {U U' : Addr → Prop}, (∀ a, U' a → U a ∨ ∃ o, g1.H a = some o) → RVL C g1 g U rs vs → RVL C g0 g U' rs vs
  | [], vs, U, U', hU, h => h
  | r :: rs, vs, U, U', hU, h => by
    obtain ⟨v, vr, p, e, h1, h2, h3⟩ := h
    refine ⟨v, vr, p, e, fun a ha => ⟨(h1 a ha).1, le.new (h1 a ha).2.1, fun z => ?_⟩, h2, rvl_used le (fun a z => ?_) h3⟩
    · rcases hU a z with q | ⟨o, q⟩
      · exact (h1 a ha).2.2 q
      · rw [(h1 a ha).2.1] at q; cases q
    · rcases z with z | z
      · exact .inl (.inl z)
      · rcases hU a z with q | q
        · exact .inl (.inr q)
        · exact .inr q
theorem rvl_mono {C : Ctx} : ∀ g g1 g' (r : List RV) (v : List V), GLe C g g1 → RVL C g1 g' (fun _ => False) r v → RVL C g g' (fun _ => False) r v := fun g g1 g' r v le h => rvl_used le (fun _ z => z.elim) h
theorem rvl_len {C : Ctx} {g0 g : Gs} : ∀ {rs : List RV} {vs : List V} {U : Addr → Prop}, RVL C g0 g U rs vs → vs.length = rs.length
  | [], vs, U, h => by rw [show vs = [] from h]; rfl
  | r :: rs, vs, U, h => by
    obtain ⟨v, vr, p, rfl, h1, h2, h3⟩ := h
    simp [rvl_len h3]
def DR (C : Ctx) (es : List Expr) (m : M (List RV)) : Prop :=
  ∃ t, (∀ X, Lc C X → PA X es t) ∧ ∀ ρ S σ g Q, Stt C ρ S σ g → PostG C g σ (fun g0 g rs vs => RVL C g0 g (fun _ => False) rs vs) (m ρ S) Q → t σ g.H Q
def rNil : M (List RV) := M.ret []
def rCons (m : M RV) (n : M (List RV)) : M (List RV) := m.bind fun r => n.bind fun rs => M.ret (r :: rs)
section
variable {C : Ctx} {e : Expr} {es : List Expr} {pos : Pos}
theorem dr_nil : DR C [] rNil := ⟨tNil, fun X L => pa_nil, fun ρ S σ g Q st h => h [] g st (GLe.refl _ _) rfl⟩
theorem dr_cons {m : M RV} {n : M (List RV)} (h : DO C e m) (h' : DR C es n) (hs : ∀ X : Cx, starEach (e :: es) X.env = (false, eval e X.env) :: starEach es X.env := by intros; rfl) : DR C (e :: es) (rCons m n) := by
  obtain ⟨t, ht, s1⟩ := h
  obtain ⟨t', ht', s2⟩ := h'
  refine ⟨tCons t t', fun X L => pa_cons (ht X L) (ht' X L) (hs X), fun ρ S σ g Q st h => s1 ρ S σ g _ st ?_⟩
  unfold rCons M.bind at h
  cases e1 : m ρ S with
  | ok r ρ1 S1 =>
    rw [e1] at h
    dsimp only at h
    intro v g1 st1 le1 r1
    refine s2 ρ1 S1 σ g1 _ st1 ?_
    cases e2 : n ρ1 S1 with
    | ok rs ρ2 S2 =>
      rw [e2] at h
      intro vs g2 st2 le2 r2
      refine h (v :: vs) g2 st2 (le1.trans le2) ?_
      obtain ⟨p, pr, sl⟩ := rvr_sl r1
      have th : ∀ a, a ∈ p → ∃ o, g1.H a = some o := fun a ha => SlR_there sl ha
      refine ⟨v, vs, p, rfl, fun a ha => ?_, SlR_mono le2.le (fun a ha u hu => (le2.kp a u (pr a ha).1 hu).1) sl, rvl_used le1 (fun a z => z.elim (fun z => .inr (th a z)) fun z => z.elim) r2⟩
      obtain ⟨o, ho⟩ := th a ha
      exact ⟨(le2.kp a o (pr a ha).1 ho).2, (pr a ha).2, fun z => z⟩
    | exc x ρ2 S2 => rw [e2] at h; exact h
    | bad => rw [e2] at h; exact h.elim
  | exc x ρ1 S1 => rw [e1] at h; exact h
  | bad => rw [e1] at h; exact h.elim
def setsV : List Nat → List V → L2.St → L2.St
  | i :: is, v :: vs, σ => setsV is vs (σ.set i (some v))
  | _, _, σ => σ
def putRVs : List Nat → List RV → Env → Option Env
  | [], [], ρ => some ρ
  | i :: is, r :: rs, ρ => if i < ρ.length then putRVs is rs (ρ.set i r.toSl) else none
  | _, _, _ => none
theorem Stt.puts {g0 : Gs} : ∀ (is : List Nat) {rs : List RV} {vs : List V} {U : Addr → Prop} {ρ ρ' : Env} {S : Store} {σ : L2.St} {g : Gs}, Stt C ρ S σ g → RVL C g0 g U rs vs → putRVs is rs ρ = some ρ' → ∃ g', Stt C ρ' S (setsV is vs σ) g' ∧ g'.H = g.H ∧ g'.F = g.F ∧ g'.A = g.A
  | [], [], vs, U, ρ, ρ', S, σ, g, st, h, e => by
    cases e
    rw [show vs = [] from h]
    exact ⟨g, st, rfl, rfl, rfl⟩
  | i :: is, r :: rs, vs, U, ρ, ρ', S, σ, g, st, h, e => by
    obtain ⟨v, vr, p, rfl, h1, h2, h3⟩ := h
    unfold putRVs at e
    by_cases hi : i < ρ.length
    · rw [if_pos hi] at e
      have st1 := st.put hi h2 fun a ha => ⟨(h1 a ha).1.1, fun j _ => (h1 a ha).1.2 j⟩
      have keep : ∀ {rs : List RV} {vs : List V} {U : Addr → Prop}, (∀ a, a ∈ p → U a) → RVL C g0 g U rs vs → RVL C g0 ⟨g.F, g.A, g.H, fun j => if j = i then p else g.P j⟩ U rs vs := by
        intro rs
        induction rs with
        | nil => exact fun _ h => h
        | cons r rs ih =>
          intro vs U hU h
          obtain ⟨v, vr, q, e, h1, h2, h3⟩ := h
          refine ⟨v, vr, q, e, fun a ha => ⟨⟨(h1 a ha).1.1, fun j => ?_⟩, (h1 a ha).2⟩, h2, ih (fun a ha => .inr (hU a ha)) h3⟩
          show a ∉ (if j = i then p else g.P j)
          by_cases z : j = i
          · rw [if_pos z]; exact fun m => (h1 a ha).2.2 (hU a m)
          · rw [if_neg z]; exact (h1 a ha).1.2 j
      obtain ⟨g', st', q1, q2, q3⟩ := Stt.puts is st1 (keep (fun a ha => .inl ha) h3) e
      exact ⟨g', st', q1, q2, q3⟩
    · rw [if_neg hi] at e; cases e
  | [], r :: rs, vs, U, ρ, ρ', S, σ, g, st, h, e => by cases e
  | i :: is, [], vs, U, ρ, ρ', S, σ, g, st, h, e => by cases e
def sPars (is : List Nat) (m : M (List RV)) : M Fl := m.bind fun rs => fun ρ S => match putRVs is rs ρ with
  | some ρ' => .ok .nx ρ' S
  | none => .bad
theorem putRVs_len : ∀ {is : List Nat} {rs : List RV} {ρ ρ' : Env}, putRVs is rs ρ = some ρ' → is.length = rs.length
  | [], [], _, _, _ => rfl
  | i :: is, r :: rs, ρ, ρ', e => by
    unfold putRVs at e
    split at e
    · simp [putRVs_len e]
    · cases e
  | [], r :: rs, _, _, e => by cases e
  | i :: is, [], _, _, e => by cases e
theorem pars_core {m : M (List RV)} {t : TA} {is : List Nat} (s1 : ∀ ρ S σ g Q, Stt C ρ S σ g → PostG C g σ (fun g0 g rs vs => RVL C g0 g (fun _ => False) rs vs) (m ρ S) Q → t σ g.H Q) {ρ : Env} {S : Store} {σ : L2.St} {g : Gs} {Dn : Ends} {Q : List V → Hp → Prop}
    (st : Stt C ρ S σ g) (h : SPost C g (sPars is m ρ S) Dn) (k : ∀ vs H, vs.length = is.length → Dn.nx (setsV is vs σ) H → Q vs H) : t σ g.H Q := s1 ρ S σ g _ st (by
  unfold sPars M.bind at h
  cases e1 : m ρ S with
  | ok rs ρ1 S1 =>
    rw [e1] at h
    dsimp only at h
    intro vs g1 st1 le1 r1
    cases e2 : putRVs is rs ρ1 with
    | none => rw [e2] at h; exact h.elim
    | some ρ' =>
      rw [e2] at h
      obtain ⟨g2, st2, q1, q2, q3⟩ := Stt.puts is st1 r1 e2
      have := h _ g2 st2 (by rw [q2, q3]; exact le1.le)
      rw [q1] at this
      exact k vs _ (by rw [rvl_len r1, putRVs_len e2]) this
  | exc x ρ1 S1 => rw [e1] at h; exact fun cls dd g' st' xr => h σ cls dd g' st' xr
  | bad => rw [e1] at h; exact h.elim)
theorem sw_of {ts : List Expr} {v : Expr} {env : PySem.Env} {sc : Scope} {x : Sem (Option (List Str))} (h : env.scope = sc) (r : ∀ E0 : PySem.Env, swappedStores ts v { E0 with scope := sc } = x) : swappedStores ts v env = x := by
  have e : env = { env with scope := sc } := by cases env; cases h; rfl
  rw [e]; exact r env
theorem ds_par2 {x y : Str} {a b : Expr} {m : M (List RV)} {px py pt : Pos} {kt k2 pt2} (i j : Nat) (hi : C.N[i]? = some x := by rfl) (hj : C.N[j]? = some y := by rfl) (hij : (i == j) = false := by rfl) (hx : C.sc.names.lookup x = some .local := by rfl) (hy : C.sc.names.lookup y = some .local := by rfl) (ha : DR C [a, b] m)
    (hw : ∀ E0 : PySem.Env, swappedStores [.Tuple [.Name x px, .Name y py] kt pt] (.Tuple [a, b] k2 pt2) { E0 with scope := C.sc } = pure (some [x, y]) := by intros; rfl) (hs : ∀ X : Cx, swapsWithSole [.Tuple [.Name x px, .Name y py] kt pt] (.Tuple [a, b] k2 pt2) pos.line X.env = pure false := by intros; rfl) :
    DS C (.Assign [.Tuple [.Name x px, .Name y py] kt pt] (.Tuple [a, b] k2 pt2) pos) (sPars [i, j] m) := by
  obtain ⟨t, ht, s1⟩ := ha
  have hne : i ≠ j := by simpa using hij
  refine ⟨tPar i j t, fun X L => ps_par (pos := pos) L.calm (by rw [L.N]; exact L.nd) (by rw [L.N]; exact hi) (by rw [L.N]; exact hj) hne (by rw [L.sc]; exact hx) (by rw [L.sc]; exact hy) (ht X L) (sw_of L.sc hw) (hs X), fun ρ S σ g Dn st h => pars_core s1 st h ?_⟩
  intro vs H hl q
  match vs, hl with
  | [v, w], _ => exact ⟨v, w, rfl, q⟩
theorem ds_par3 {x y z : Str} {a b c : Expr} {m : M (List RV)} {px py pz pt : Pos} {kt k2 pt2} (i j l : Nat) (hi : C.N[i]? = some x := by rfl) (hj : C.N[j]? = some y := by rfl) (hl : C.N[l]? = some z := by rfl) (hij : (i == j) = false := by rfl) (hil : (i == l) = false := by rfl) (hjl : (j == l) = false := by rfl) (hx : C.sc.names.lookup x = some .local := by rfl) (hy : C.sc.names.lookup y = some .local := by rfl) (hz : C.sc.names.lookup z = some .local := by rfl) (ha : DR C [a, b, c] m)
    (hw : ∀ E0 : PySem.Env, swappedStores [.Tuple [.Name x px, .Name y py, .Name z pz] kt pt] (.Tuple [a, b, c] k2 pt2) { E0 with scope := C.sc } = pure (some [x, y, z]) := by intros; rfl) (hs : ∀ X : Cx, swapsWithSole [.Tuple [.Name x px, .Name y py, .Name z pz] kt pt] (.Tuple [a, b, c] k2 pt2) pos.line X.env = pure false := by intros; rfl) :
    DS C (.Assign [.Tuple [.Name x px, .Name y py, .Name z pz] kt pt] (.Tuple [a, b, c] k2 pt2) pos) (sPars [i, j, l] m) := by
  obtain ⟨t, ht, s1⟩ := ha
  refine ⟨tPar3 i j l t, fun X L => ps_par3 (pos := pos) L.calm (by rw [L.N]; exact L.nd) (by rw [L.N]; exact hi) (by rw [L.N]; exact hj) (by rw [L.N]; exact hl) (by simpa using hij) (by simpa using hil) (by simpa using hjl) (by rw [L.sc]; exact hx) (by rw [L.sc]; exact hy) (by rw [L.sc]; exact hz) (ht X L) (sw_of L.sc hw) (hs X), fun ρ S σ g Dn st h => pars_core s1 st h ?_⟩
  intro vs H hl q
  match vs, hl with
  | [u, v, w], _ => exact ⟨u, v, w, rfl, q⟩
/-- plain names as targets in a row -/
def DN (C : Ctx) (ts : List Expr) (is : List Nat) : Prop := ∃ t, (∀ X, Lc C X → PGs X ts t) ∧ ∀ vs σ H Q, vs.length = is.length → Q (setsV is vs σ) H → t vs σ H Q
theorem dn_nil : DN C [] [] := ⟨gNil, fun X L => pgs_nil, fun vs σ H Q hl h => by
  match vs, hl with
  | [], _ => exact ⟨rfl, h⟩⟩
theorem dn_cons {x : Str} {p : Pos} {is : List Nat} (i : Nat) (hi : C.N[i]? = some x := by rfl) (hx : Sto C x := by first | exact Or.inl rfl | exact Or.inr ⟨rfl, rfl⟩) (h : DN C es is) (hs : ∀ X : Cx, (assignEach (.Name x p :: es) X.env).map (·.2) = assign (.Name x p) X.env :: (assignEach es X.env).map (·.2) := by intros; rfl) : DN C (.Name x p :: es) (i :: is) := by
  obtain ⟨t, ht, s1⟩ := h
  refine ⟨gCons (gName i) t, fun X L => pgs_cons (pg_name (by rw [L.N]; exact L.nd) (by rw [L.N]; exact hi) (by rw [L.sc]; exact hx.loc) (by rw [L.sc]; exact hx.fn L)) (ht X L) (hs X), fun vs σ H Q hl q => ?_⟩
  match vs, hl with
  | v :: vr, hl => exact ⟨v, vr, rfl, s1 vr _ H Q (by simpa using hl) q⟩
theorem rvl_pv {g0 g : Gs} {p : Addr} {o : HO} (hp : g.H p = none) : ∀ {rs : List RV} {vs : List V} {U : Addr → Prop}, RVL C g0 g U rs vs → RVL C g0 (g.pv p o) U rs vs
  | [], _, _, h => h
  | r :: rs, vs, U, h => by
    obtain ⟨v, vr, q, e, h1, h2, h3⟩ := h
    refine ⟨v, vr, q, e, h1, SlR_mono (Le.refl _ _) (fun a ha u hu => ?_) h2, rvl_pv hp h3⟩
    have hne : a ≠ p := fun z => by subst z; rw [hp] at hu; cases hu
    show upd g.H p o a = some u
    rw [upd_ne hne]; exact hu
/-- x, y, .. = a, b, .. by a tuple -/
theorem ds_parT {ts : List Expr} {m : M (List RV)} {is : List Nat} {kt k2 : Nat} {pt pt2 : Pos} (ha : DR C es m) (hn : DN C ts is) (hz : decide (is.length ≤ 1000) = true := by rfl) (hln : ∀ X : Cx, (assignEach ts X.env).length = is.length := by intros; rfl) (hst : ∀ X : Cx, (assignEach ts X.env).findIdx? (·.1) = none := by intros; rfl)
    (hs : ∀ X : Cx, swapsWithSole [.Tuple ts kt pt] (.Tuple es k2 pt2) pos.line X.env = pure false := by intros; rfl) (hw : ∀ E0 : PySem.Env, swappedStores [.Tuple ts kt pt] (.Tuple es k2 pt2) { E0 with scope := C.sc } = pure none := by intros; rfl)
    (h1 : ∀ X : Cx, (assignEach [.Tuple ts kt pt] X.env).map (·.2) = [assign (.Tuple ts kt pt) X.env] := by intros; rfl) : DS C (.Assign [.Tuple ts kt pt] (.Tuple es k2 pt2) pos) (sPars is m) := by
  obtain ⟨t, ht, s1⟩ := ha
  obtain ⟨tn, htn, sn⟩ := hn
  refine ⟨tAsg (tTup t) (gTup C.K is.length tn), fun X L => by have := ps_asg (pos := pos) (pe_tup (ht X L)) (pg_tup (pos := pt) (k := kt) L.calm (htn X L) (hln X) (hst X)) (hs X) (sw_of L.sc hw) (h1 X); rw [L.K] at this; exact this, fun ρ S σ g Dn st h => s1 ρ S σ g _ st ?_⟩
  unfold sPars M.bind at h
  cases e1 : m ρ S with
  | ok rs ρ1 S1 =>
    rw [e1] at h
    dsimp only at h
    intro vs g1 st1 le1 r1
    cases e2 : putRVs is rs ρ1 with
    | none => rw [e2] at h; exact h.elim
    | some ρ' =>
      rw [e2] at h
      have hl : vs.length = is.length := by rw [rvl_len r1, putRVs_len e2]
      refine ⟨by rw [hl]; exact Nat.le_trans (of_decide_eq_true hz) (by decide), fun p hp => ⟨p, vs, rfl, SqT.of upd_same, hl, sn vs σ _ _ hl ?_⟩⟩
      obtain ⟨g2, st2, q1, q2, q3⟩ := Stt.puts is (st1.priv (o := .tup vs) hp) (rvl_pv hp r1) e2
      have := h _ g2 st2 (by rw [q2, q3]; exact le1.le)
      rw [q1] at this
      exact this
  | exc x ρ1 S1 => rw [e1] at h; exact fun cls dd g' st' xr => h σ cls dd g' st' xr
  | bad => rw [e1] at h; exact h.elim

/-! ### enumerate, zip -/
def enumD : Nat → List D → List D
  | _, [] => []
  | i, d :: ds => .tup [.int i, d] :: enumD (i + 1) ds
theorem enumD_get : ∀ (ds : List D) (k i : Nat), (enumD k ds)[i]? = ds[i]?.map fun d => .tup [.int ((k + i : Nat) : Int), d]
  | [], k, i => by simp [enumD]
  | d :: ds, k, 0 => by simp [enumD]
  | d :: ds, k, i + 1 => by
    have := enumD_get ds (k + 1) i
    rw [show k + 1 + i = k + (i + 1) by omega] at this
    exact this
theorem enumD_len : ∀ (ds : List D) (k : Nat), (enumD k ds).length = ds.length
  | [], _ => rfl
  | d :: ds, k => by simp [enumD, enumD_len ds]
def zipD : List D → List D → List D
  | a :: as, b :: bs => .tup [a, b] :: zipD as bs
  | _, _ => []
theorem zipD_get : ∀ (as bs : List D) (i : Nat) (a b : D), as[i]? = some a → bs[i]? = some b → (zipD as bs)[i]? = some (.tup [a, b])
  | a :: as, b :: bs, 0, _, _, h, h' => by simp at h h'; subst h h'; rfl
  | a :: as, b :: bs, i + 1, _, _, h, h' => by
    simp at h h'
    unfold zipD
    rw [List.getElem?_cons_succ]
    exact zipD_get as bs i _ _ h h'
  | [], _, i, _, _, h, _ => by simp at h
  | _ :: _, [], i, _, _, _, h => by simp at h
theorem zipD_len : ∀ (as bs : List D), (zipD as bs).length = min as.length bs.length
  | a :: as, b :: bs => by
    have := zipD_len as bs
    show (zipD as bs).length + 1 = min (as.length + 1) (bs.length + 1)
    omega
  | [], bs => by simp [zipD]
  | _ :: _, [] => by simp [zipD]
theorem itd_pair {g : Gs} {J : It} {ds : List D} {xs ys : Nat → Option V} {n : Nat} {G : Hp → Prop} (w : Walk J n G (YPair xs ys)) (hn : ds.length = n) (hG : ∀ g' : Gs, Le g.F g.A g'.F g'.A → Ex g'.F g'.H → G g'.H)
    (hd : ∀ (i : Nat) x y, i < n → xs i = some x → ys i = some y → ∃ a b, ds[i]? = some (.tup [a, b]) ∧ R C.K g.F g.A a x ∧ R C.K g.F g.A b y) : ItD C g J ds := by
  refine ⟨n, G, _, w, hn, hG, fun ρ S σ g' i x H' st le hi y => ?_⟩
  obtain ⟨T, u, v, rfl, hT, rfl, hx, hy⟩ := y
  obtain ⟨a, b, h1, h2, h3⟩ := hd i u v hi hx hy
  exact ⟨g'.up T (.tup [u, v]), _, h1, rfl, st.grow hT, st.le_up hT, tup_new st hT (Rs_cons.mpr ⟨u, [v], rfl, R_mono le _ _ h2, Rs_one (R_mono le _ _ h3)⟩)⟩
def enum1 : List D → Option (List D)
  | [.lst xs] => some (enumD 0 xs)
  | [.rol xs] => some (enumD 0 xs)
  | _ => none
def mEnum (m : M (List D)) : M (List D) := m.bind fun ds => M.opt (enum1 ds)
theorem sq_l {g : Gs} {d : D} {v : V} {xs : List D} (h : R C.K g.F g.A d v) (e : lstOf d = some xs) : ∃ a vs, v = .ref a ∧ SqL C.K g.F a vs ∧ Rs C.K g.F g.A xs vs := by
  cases d with
  | lst ys => cases e; obtain ⟨a, vs, q1, q2, q3⟩ := R_lst.mp h; exact ⟨a, vs, q1, SqL.of q2, q3⟩
  | rol ys => cases e; exact R_rol.mp h
  | _ => cases e
theorem enum1_of {ds ys : List D} (e : enum1 ds = some ys) : ∃ d xs, ds = [d] ∧ lstOf d = some xs ∧ ys = enumD 0 xs := by
  unfold enum1 at e
  split at e
  · cases e; exact ⟨_, _, rfl, rfl, rfl⟩
  · cases e; exact ⟨_, _, rfl, rfl, rfl⟩
  · cases e
theorem di_enum {a : Expr} {p tpos : Pos} {elts : List Expr} {kk : Nat} {m : M (List D)} {x : Str} (hx : x = "enumerate" := by rfl) (hg : C.sc.names.lookup x = some .globalImplicit := by rfl) (hm : C.mg x = none) (h : DA C [a] m) (hs1 : ∀ X : Cx, starEach [a] X.env = [(false, eval a X.env)] := by intros; rfl) : DI C (.Tuple elts kk tpos) (.Call (.Name x p) [a] [] pos) (mEnum m) := by
  subst hx
  obtain ⟨t, ht, hs⟩ := h
  refine ⟨iEnum C.K t, fun X L => by have := pi_enum (elts := elts) (kk := kk) (tpos := tpos) (p := p) (pos := pos) (show X.env.scope.names.lookup ("enumerate" : Str) = some .globalImplicit by rw [L.sc]; exact hg) (by rw [L.mg]; exact hm) (ht X L) (hs1 X); rw [L.K] at this; exact this, fun ρ S σ g Rk st h => hs ρ S σ g _ st (postG_bind h fun ds ρ1 S1 vs g1 _ st1 le1 r1 h1 => ?_)⟩
  obtain ⟨ys, e1, h2⟩ := opt_post h1
  obtain ⟨d, xs, rfl, e2, rfl⟩ := enum1_of e1
  obtain ⟨v, rfl, q⟩ := Rs_one_inv r1
  obtain ⟨b, us, rfl, sq, r⟩ := sq_l q e2
  refine ⟨b, us, rfl, st1.wd.sub.l sq, h2 _ g1 st1 (GLe.refl _ _) (itd_pair walk_enum (by rw [enumD_len, Rs_len r]) (fun g' le ex => ex.l (le.ex.l sq)) fun i u v hi hx hy => ?_)⟩
  cases hx
  obtain ⟨d', h3, h4⟩ := Rs_getV r hy
  exact ⟨.int (i : Nat), d', by rw [enumD_get, h3]; simp, dI, h4⟩
/-- two of a kind -/
def zip2 : List D → Option (List D)
  | [.tup xs, .tup ys] => some (zipD xs ys)
  | [a, b] => match lstOf a, lstOf b with
    | some xs, some ys => some (zipD xs ys)
    | _, _ => none
  | _ => none
def mZip (m : M (List D)) : M (List D) := m.bind fun ds => M.opt (zip2 ds)
theorem zip2_of {ds zs : List D} (e : zip2 ds = some zs) : (∃ xs ys, ds = [.tup xs, .tup ys] ∧ zs = zipD xs ys) ∨ ∃ a b xs ys, ds = [a, b] ∧ lstOf a = some xs ∧ lstOf b = some ys ∧ zs = zipD xs ys := by
  unfold zip2 at e
  split at e
  · cases e; exact .inl ⟨_, _, rfl, rfl⟩
  · split at e
    · rename_i h1 h2
      cases e; exact .inr ⟨_, _, _, _, rfl, h1, h2, rfl⟩
    · cases e
  · cases e
theorem zip_pts {g : Gs} {xs ys : List D} {us vs : List V} (r : Rs C.K g.F g.A xs us) (r' : Rs C.K g.F g.A ys vs) : ∀ (i : Nat) x y, i < min us.length vs.length → us[i]? = some x → vs[i]? = some y → ∃ a b, (zipD xs ys)[i]? = some (.tup [a, b]) ∧ R C.K g.F g.A a x ∧ R C.K g.F g.A b y := fun i x y _ hx hy => by
  obtain ⟨a, h1, h2⟩ := Rs_getV r hx
  obtain ⟨b, h3, h4⟩ := Rs_getV r' hy
  exact ⟨a, b, zipD_get _ _ _ _ _ h1 h3, h2, h4⟩
theorem walk_zipT {K : PySem.W.Frag} {a b : Addr} {xs ys : List V} {n : Nat} (hn : n = min xs.length ys.length) : Walk (ItzT K a b) n (fun H => SqT K H a xs ∧ SqT K H b ys) (YPair (fun i => xs[i]?) (fun i => ys[i]?)) := by
  subst hn
  refine ⟨fun i _ hi q => ?_, fun _ q => ⟨xs, ys, q.1, q.2, by omega⟩, fun i H v H' _ q y => ?_⟩
  · have h1 : i < xs.length := by omega
    have h2 : i < ys.length := by omega
    exact ⟨xs, ys, xs[i], ys[i], q.1, q.2, by simp [h1], by simp [h2]⟩
  · obtain ⟨T, x, z, h1, h2, h3, h4, h5⟩ := y
    exact ⟨T, x, z, h1, h2, h3, h4 xs q.1, h5 ys q.2⟩
theorem di_zip {a b : Expr} {p tpos : Pos} {elts : List Expr} {kk : Nat} {m : M (List D)} {x : Str} (hx : x = "zip" := by rfl) (hg : C.sc.names.lookup x = some .globalImplicit := by rfl) (hm : C.mg x = none) (h : DA C [a, b] m)
    (hs : ∀ X : Cx, starEach [a, b] X.env = (false, eval a X.env) :: starEach [b] X.env := by intros; rfl) (hpl : ∀ X : Cx, (backTo pos (starEach [b] X.env)).any (·.1) = false := by intros; rfl) : DI C (.Tuple elts kk tpos) (.Call (.Name x p) [a, b] [] pos) (mZip m) := by
  subst hx
  obtain ⟨t, ht, s1⟩ := h
  refine ⟨iZipA C.K t, fun X L => by have := pi_zipA (elts := elts) (kk := kk) (tpos := tpos) (p := p) (pos := pos) (show X.env.scope.names.lookup ("zip" : Str) = some .globalImplicit by rw [L.sc]; exact hg) (by rw [L.mg]; exact hm) (ht X L) (hs X) (hpl X); rw [L.K] at this; exact this, fun ρ S σ g Rk st h => s1 ρ S σ g _ st (postG_bind h fun ds ρ1 S1 vs g1 _ st1 le1 r1 h1 => ?_)⟩
  obtain ⟨zs, e1, h2⟩ := opt_post h1
  rcases zip2_of e1 with ⟨xs, ys, rfl, rfl⟩ | ⟨d1, d2, xs, ys, rfl, e2, e3, rfl⟩
  · obtain ⟨v, u, rfl, q, q'⟩ := Rs_two_inv r1
    obtain ⟨a1, us, rfl, sq1, rr1⟩ := R_tup.mp q
    obtain ⟨a2, ws, rfl, sq2, rr2⟩ := R_tup.mp q'
    exact ⟨a1, a2, us, ws, rfl, .inr ⟨st1.wd.sub.t sq1, st1.wd.sub.t sq2, h2 _ g1 st1 (GLe.refl _ _) (itd_pair (walk_zipT rfl) (by rw [zipD_len, Rs_len rr1, Rs_len rr2]) (fun g' le ex => ⟨ex.t (le.ex.t sq1), ex.t (le.ex.t sq2)⟩) (zip_pts rr1 rr2))⟩⟩
  · obtain ⟨v, u, rfl, q, q'⟩ := Rs_two_inv r1
    obtain ⟨a1, us, rfl, sq1, rr1⟩ := sq_l q e2
    obtain ⟨a2, ws, rfl, sq2, rr2⟩ := sq_l q' e3
    exact ⟨a1, a2, us, ws, rfl, .inl ⟨st1.wd.sub.l sq1, st1.wd.sub.l sq2, h2 _ g1 st1 (GLe.refl _ _) (itd_pair (walk_zip rfl) (by rw [zipD_len, Rs_len rr1, Rs_len rr2]) (fun g' le ex => ⟨ex.l (le.ex.l sq1), ex.l (le.ex.l sq2)⟩) (zip_pts rr1 rr2))⟩⟩

/-! ### x or y -/
def RV.tru : RV → Option Bool
  | .val d => dTru d
  | .own xs => some (!xs.isEmpty)
  | _ => none
def mOrT (m n : M RV) : M RV := m.bind fun r => fun ρ S => match r.tru with
  | some true => .ok r ρ S
  | some false => n ρ S
  | none => .bad
theorem postG_le {α β : Type} {g g1 : Gs} {σ : L2.St} {Rel : Gs → Gs → α → β → Prop} {o : Res α} {Q : β → Hp → Prop} (le : GLe C g g1) (h : PostG C g σ Rel o Q) (mono : ∀ g g1 g' c d, GLe C g g1 → Rel g1 g' c d → Rel g g' c d) : PostG C g1 σ Rel o Q := by
  cases o with
  | ok a ρ S => exact fun v g' st' le' r => h v g' st' (le.trans le') (mono _ _ _ _ _ le r)
  | exc x ρ S => exact h
  | bad => exact h
theorem rv_tru {ρ : Env} {S : Store} {σ : L2.St} {g0 g : Gs} (st : Stt C ρ S σ g) {r : RV} {v : V} {k : Bool} (h : RVR C g0 g r v) (e : r.tru = some k) : TruV C.K v g.H k := by
  cases r with
  | val d => exact dTru_rn st (rn_r st h) e
  | own xs =>
    obtain ⟨p, pr, a, vs, rfl, ev, ha, rr⟩ := h
    cases ev; cases e
    refine .inl ⟨vs, SqL.of ha, ?_⟩
    have := Rs_len rr
    cases xs <;> cases vs <;> simp_all
  | _ => cases e
theorem do_orT {a b : Expr} {rest : List Expr} {m n : M RV} (ha : DO C a m) (hb : DO C (.BoolOp .Or (b :: rest) pos) n) : DO C (.BoolOp .Or (a :: b :: rest) pos) (mOrT m n) := by
  obtain ⟨t, ht, s1⟩ := ha
  obtain ⟨t', ht', s2⟩ := hb
  refine ⟨tOrT C.K t t', fun X L => by have := pe_orT (ht X L) (ht' X L); rw [L.K] at this; exact this, fun ρ S σ g Q st h => s1 ρ S σ g _ st ?_⟩
  unfold mOrT M.bind at h
  cases e1 : m ρ S with
  | ok r ρ1 S1 =>
    rw [e1] at h
    dsimp only at h
    intro v g1 st1 le1 r1
    cases e : r.tru with
    | none => rw [e] at h; exact h.elim
    | some k =>
      rw [e] at h
      refine ⟨k, rv_tru st1 r1 e, ?_⟩
      cases k with
      | true => rw [if_pos rfl]; exact h v g1 st1 le1 r1
      | false => rw [if_neg Bool.false_ne_true]; exact s2 ρ1 S1 σ g1 Q st1 (postG_le le1 h rvr_mono)
  | exc x ρ1 S1 => rw [e1] at h; exact h
  | bad => rw [e1] at h; exact h.elim
end
end Thr
namespace Thr
open PySem PySem.Spec PyProof.Rows L2 RZ

/-! ### texts by their methods -/
def mM0 (f : D → Option D) (mo : M Pk) : M D := mo.bind fun p => M.look p fun x => M.opt (f x)
def M0S (C : Ctx) (r : V → List V → Hp → VK → Prop) (f : D → Option D) : Prop :=
  ∀ (g : Gs) x v d (Q : VK), RN C.K g x v → f x = some d → (∀ w, R C.K g.F g.A d w → Q w g.H) → (∃ a, v = .str a) ∧ r v [] g.H Q
def lowD : D → Option D
  | .str s => if (s.all (fun c => decide (c < 128)) && decide (s.length ≤ 5000000)) = true then some (.str (s.map lo1)) else none
  | _ => none
def uppD : D → Option D
  | .str s => if (s.all (fun c => decide (c < 128)) && decide (s.length ≤ 5000000)) = true then some (.str (s.map up1)) else none
  | _ => none
/-- texts in a row -/
def strsD : List D → Option (List (List Nat))
  | [] => some []
  | .str s :: r => (strsD r).map (s :: ·)
  | _ :: _ => none
def joinL (sep : List Nat) : List (List Nat) → List Nat
  | [] => []
  | [x] => x
  | x :: y :: r => x ++ sep ++ joinL sep (y :: r)
def sqOf : D → Option (List D)
  | .lst xs => some xs
  | .rol xs => some xs
  | .tup xs => some xs
  | _ => none
def dJoin : D → D → Option D
  | .str sep, y => match sqOf y with
    | some ys => match strsD ys with
      | some ss => if (ss.map List.length).sum + ss.length * sep.length ≤ 16777216 then some (.str (joinL sep ss)) else none
      | none => none
    | none => none
  | _, _ => none
def dCount : D → D → Option D
  | .str s, .str t => some (.int (Txt.count (mkS s) (mkS t)))
  | _, _ => none
def dFind : D → D → Option D
  | .str s, .str t => some (.int (Txt.find (mkS s) (mkS t)))
  | _, _ => none
def dStarts : D → D → Option D
  | .str s, .str t => some (.bl (Txt.startswith (mkS s) (mkS t)))
  | _, _ => none
section
variable {C : Ctx} {o e a b c : Expr} {es : List Expr} {pos p apos : Pos}
theorem Str_len (s : List Nat) : (mkS s).length = s.length := mkS_len s
theorem m0_low : M0S C (fun x xs H Q => ∃ a, x = .str a ∧ xs = [] ∧ a.length ≤ 5592405 ∧ Q (.str (Txt.lower a)) H) lowD := by
  intro g x v d Q rx e k
  unfold lowD at e
  split at e
  · split at e
    · rename_i s hz
      rw [RN_str] at rx; subst rx
      rw [Bool.and_eq_true, decide_eq_true_eq] at hz
      cases e
      refine ⟨⟨_, rfl⟩, _, rfl, rfl, by rw [mkS_len]; omega, k _ ?_⟩
      have : Txt.lower (mkS s) = mkS (s.map lo1) := SX.lower_S hz.1
      rw [this]; exact dS
    · cases e
  · cases e
theorem m0_upp : M0S C (fun x xs H Q => ∃ a, x = .str a ∧ xs = [] ∧ a.length ≤ 5592405 ∧ Q (.str (Txt.upper a)) H) uppD := by
  intro g x v d Q rx e k
  unfold uppD at e
  split at e
  · split at e
    · rename_i s hz
      rw [RN_str] at rx; subst rx
      rw [Bool.and_eq_true, decide_eq_true_eq] at hz
      cases e
      refine ⟨⟨_, rfl⟩, _, rfl, rfl, by rw [mkS_len]; omega, k _ ?_⟩
      have : Txt.upper (mkS s) = mkS (s.map up1) := SX.upper_S hz.1
      rw [this]; exact dS
    · cases e
  · cases e
theorem m0_core {r : V → List V → Hp → VK → Prop} {f : D → Option D} (h : M0S C r f) {mo : M Pk} {to : TE} (so : ∀ ρ S σ g Q, Stt C ρ S σ g → PostG C g σ (fun _ => PkR C.K σ) (mo ρ S) Q → to σ g.H Q) :
    ∀ ρ S σ g Q, Stt C ρ S σ g → PostG C g σ (fun _ g d v => R C.K g.F g.A d v) (mM0 f mo ρ S) Q → tM0 r to σ g.H Q := fun ρ S σ g Q st q =>
  so ρ S σ g _ st (postG_bind q fun p ρ1 S1 v g1 _ st1 le1 r1 h1 => by
    obtain ⟨x, ex, h2⟩ := look_post h1
    obtain ⟨d, ed, h3⟩ := opt_post h2
    exact h g1 x v d Q (pk_get st1 r1 ex) ed fun w rr => h3 w g1 st1 (GLe.refl _ _) rr)
theorem de_lower {name : Str} {mo : M Pk} (hn : name = "lower" := by rfl) (ho : DK C o mo) (hb : ∀ X : Cx, attributeBase o name X.env (eval o X.env) = eval o X.env := by intros; rfl) (hl : (apos.endLine == pos.line) = true := by rfl) : DE C (.Call (.Attribute o name apos) [] [] pos) (mM0 lowD mo) := by
  subst hn
  obtain ⟨to, ho, so⟩ := ho
  exact ⟨_, fun X L => pe_lower (ho X L) (hb X) hl, m0_core m0_low so⟩
theorem de_upper {name : Str} {mo : M Pk} (hn : name = "upper" := by rfl) (ho : DK C o mo) (hb : ∀ X : Cx, attributeBase o name X.env (eval o X.env) = eval o X.env := by intros; rfl) (hl : (apos.endLine == pos.line) = true := by rfl) : DE C (.Call (.Attribute o name apos) [] [] pos) (mM0 uppD mo) := by
  subst hn
  obtain ⟨to, ho, so⟩ := ho
  exact ⟨_, fun X L => pe_upper (ho X L) (hb X) hl, m0_core m0_upp so⟩
def M1S (C : Ctx) (r : V → List V → Hp → VK → Prop) (f : D → D → Option D) : Prop :=
  ∀ (g : Gs) x y v u d (Q : VK), Ex g.F g.H → RN C.K g x v → RN C.K g y u → f x y = some d → (∀ w, R C.K g.F g.A d w → Q w g.H) → r v [u] g.H Q
def mM1 (f : D → D → Option D) (mo me : M Pk) : M D := mo.bind fun p => M.look p fun x => match x with
  | .str _ => me.bind fun q => M.look p fun x => M.look q fun y => M.opt (f x y)
  | _ => fun _ _ => .bad
theorem m1_core {r : V → List V → Hp → VK → Prop} {f : D → D → Option D} (h : M1S C r f) {mo me : M Pk} {to te : TE} (so : ∀ ρ S σ g Q, Stt C ρ S σ g → PostG C g σ (fun _ => PkR C.K σ) (mo ρ S) Q → to σ g.H Q) (se : ∀ ρ S σ g Q, Stt C ρ S σ g → PostG C g σ (fun _ => PkR C.K σ) (me ρ S) Q → te σ g.H Q) :
    ∀ ρ S σ g Q, Stt C ρ S σ g → PostG C g σ (fun _ g d v => R C.K g.F g.A d v) (mM1 f mo me ρ S) Q → tM1 r to te σ g.H Q := fun ρ S σ g Q st q =>
  so ρ S σ g _ st (postG_bind q fun p ρ1 S1 v g1 _ st1 le1 r1 h1 => by
    obtain ⟨x, ex, h2⟩ := look_post h1
    cases x with
    | str s =>
      have rx := pk_get st1 r1 ex
      rw [RN_str] at rx
      refine ⟨⟨_, rx⟩, se ρ1 S1 σ g1 _ st1 (postG_bind h2 fun q ρ2 S2 u g2 _ st2 le2 r2 h3 => ?_)⟩
      obtain ⟨x', ex', h4⟩ := look_post h3
      obtain ⟨y, ey, h5⟩ := look_post h4
      obtain ⟨d, ed, h6⟩ := opt_post h5
      exact h g2 x' y v u d Q st2.wd.sub (pk_get st2 (pk_mono le2 r1) ex') (pk_get st2 r2 ey) ed fun w rr => h6 w g2 st2 (GLe.refl _ _) rr
    | _ => exact h2.elim)
theorem strs_of {K : PySem.W.Frag} {F : Hp} {A : List Addr} : ∀ {ds : List D} {vs : List V} {ss : List (List Nat)}, Rs K F A ds vs → strsD ds = some ss → vs = (ss.map mkS).map V.str
  | [], vs, ss, h, e => by rw [Rs_nil] at h; cases e; exact h
  | d :: ds, vs, ss, h, e => by
    obtain ⟨v, r, rfl, h1, h2⟩ := Rs_cons.mp h
    cases d with
    | str s =>
      unfold strsD at e
      cases q : strsD ds with
      | none => rw [q] at e; cases e
      | some tt =>
        rw [q] at e
        cases e
        rw [R_str] at h1
        rw [h1, strs_of h2 q]
        rfl
    | _ => cases e
theorem rs_strs {K : PySem.W.Frag} {F : Hp} {A : List Addr} : ∀ (ss : List (List Nat)), Rs K F A (ss.map D.str) ((ss.map mkS).map V.str)
  | [] => Rs_nil.mpr rfl
  | s :: ss => Rs_cons.mpr ⟨_, _, rfl, R_str.mpr rfl, rs_strs ss⟩
theorem join_eq0 (sep : List Nat) : ∀ ss : List (List Nat), Str.join (mkS sep) (ss.map mkS) = mkS (joinL sep ss)
  | [] => rfl
  | [x] => rfl
  | x :: y :: r => by
    have ih := join_eq0 sep (y :: r)
    show (mkS x ++ mkS sep ++ Str.join (mkS sep) ((y :: r).map mkS) : Str) = _
    rw [ih, show joinL sep (x :: y :: r) = x ++ sep ++ joinL sep (y :: r) from rfl]
    apply congrArg Str.mk
    show ((x.toArray ++ sep.toArray) ++ (joinL sep (y :: r)).toArray) = _
    simp
theorem join_eq (sep : List Nat) (ss : List (List Nat)) : Txt.join (mkS sep) (ss.map mkS) = mkS (joinL sep ss) := (StrLaws.glued_eq_join _ _).trans (join_eq0 sep ss)
theorem seq_at {g : Gs} {d : D} {v : V} {xs : List D} (sub : Ex g.F g.H) (h : RN C.K g d v) (e : sqOf d = some xs) : ∃ a vs, v = .ref a ∧ (SqL C.K g.H a vs ∨ SqT C.K g.H a vs) ∧ Rs C.K g.F g.A xs vs := by
  cases d with
  | lst ys => cases e; obtain ⟨a, vs, q1, q2, q3⟩ := h; exact ⟨a, vs, q1, .inl (SqL.of q2), q3⟩
  | rol ys => cases e; obtain ⟨a, vs, q1, q2, q3⟩ := RN_rol.mp h; exact ⟨a, vs, q1, .inl (sub.l q2), q3⟩
  | tup ys => cases e; obtain ⟨a, vs, q1, q2, q3⟩ := RN_tup.mp h; exact ⟨a, vs, q1, .inr (sub.t q2), q3⟩
  | _ => cases e
theorem m1_join : M1S C (fun x xs H Q => ∃ a p, ∃ ys : List Str, x = .str a ∧ xs = [.ref p] ∧ (SqL C.K H p (ys.map V.str) ∨ SqT C.K H p (ys.map V.str)) ∧ (ys.map (·.length)).sum + ys.length * a.length ≤ 16777216 ∧ Q (.str (Txt.join a ys)) H) dJoin := by
  intro g x y v u d Q sub rx ry e k
  unfold dJoin at e
  split at e
  · rename_i sep y
    split at e
    · rename_i ys e1
      split at e
      · rename_i ss e2
        split at e
        · rename_i hz
          cases e
          rw [RN_str] at rx
          subst rx
          obtain ⟨a, vs, rfl, q1, q2⟩ := seq_at sub ry e1
          have ev := strs_of q2 e2
          subst ev
          refine ⟨_, a, _, rfl, rfl, q1, ?_, k _ (R_str.mpr (by rw [join_eq]))⟩
          have h1 : (List.map (fun x => x.length) (ss.map mkS)) = ss.map List.length := by
            rw [List.map_map]
            exact List.map_congr_left fun s _ => mkS_len s
          rw [h1, List.length_map, mkS_len]
          exact hz
        · cases e
      · cases e
    · cases e
  · cases e
theorem m1_str {f : Str → Str → D} {gv : Str → Str → V} {ff : D → D → Option D} (hf : ∀ x y d, ff x y = some d → ∃ s t, x = .str s ∧ y = .str t ∧ d = f (mkS s) (mkS t)) (hr : ∀ F A a b, R C.K F A (f a b) (gv a b)) : M1S C (fun x xs H Q => ∃ a b, x = .str a ∧ xs = [.str b] ∧ Q (gv a b) H) ff := by
  intro g x y v u d Q sub rx ry e k
  obtain ⟨s, t, rfl, rfl, rfl⟩ := hf x y d e
  rw [RN_str] at rx ry
  subst rx ry
  exact ⟨_, _, rfl, rfl, k _ (hr _ _ _ _)⟩
theorem m1_count : M1S C (fun x xs H Q => ∃ a b, x = .str a ∧ xs = [.str b] ∧ Q (.int (Txt.count a b)) H) dCount :=
  m1_str (f := fun a b => .int (Txt.count a b)) (gv := fun a b => .int (Txt.count a b)) (fun x y d e => by unfold dCount at e; split at e <;> cases e; exact ⟨_, _, rfl, rfl, rfl⟩) fun _ _ _ _ => dI
theorem m1_find : M1S C (fun x xs H Q => ∃ a b, x = .str a ∧ xs = [.str b] ∧ Q (.int (Txt.find a b)) H) dFind :=
  m1_str (f := fun a b => .int (Txt.find a b)) (gv := fun a b => .int (Txt.find a b)) (fun x y d e => by unfold dFind at e; split at e <;> cases e; exact ⟨_, _, rfl, rfl, rfl⟩) fun _ _ _ _ => dI
theorem m1_starts : M1S C (fun x xs H Q => ∃ a b, x = .str a ∧ xs = [.str b] ∧ Q (.bl (Txt.startswith a b)) H) dStarts :=
  m1_str (f := fun a b => .bl (Txt.startswith a b)) (gv := fun a b => .bl (Txt.startswith a b)) (fun x y d e => by unfold dStarts at e; split at e <;> cases e; exact ⟨_, _, rfl, rfl, rfl⟩) fun _ _ _ _ => dB
section
variable {name : Str} {mo me : M Pk} (hs : ∀ X : Cx, starEach [e] X.env = [(false, eval e X.env)] := by intros; rfl) (hb : ∀ X : Cx, attributeBase o name X.env (eval o X.env) = eval o X.env := by intros; rfl) (hl : (apos.endLine == pos.line) = true := by rfl)
include hs hb hl
theorem de_join (hn : name = "join" := by rfl) (ho : DK C o mo) (he : DK C e me) : DE C (.Call (.Attribute o name apos) [e] [] pos) (mM1 dJoin mo me) := by
  subst hn
  obtain ⟨to, ho, so⟩ := ho
  obtain ⟨te, he, se⟩ := he
  exact ⟨tM1 _ to te, fun X L => by have := pe_join (ho X L) (he X L) (hs X) (hb X) hl; rw [L.K] at this; exact this, m1_core m1_join so se⟩
theorem de_count (hn : name = "count" := by rfl) (ho : DK C o mo) (he : DK C e me) : DE C (.Call (.Attribute o name apos) [e] [] pos) (mM1 dCount mo me) := by
  subst hn
  obtain ⟨to, ho, so⟩ := ho
  obtain ⟨te, he, se⟩ := he
  exact ⟨_, fun X L => pe_m1 F.slot_str_count F.type_str_count mt_count (ho X L) (he X L) (hs X) (hb X) hl, m1_core m1_count so se⟩
theorem de_find (hn : name = "find" := by rfl) (ho : DK C o mo) (he : DK C e me) : DE C (.Call (.Attribute o name apos) [e] [] pos) (mM1 dFind mo me) := by
  subst hn
  obtain ⟨to, ho, so⟩ := ho
  obtain ⟨te, he, se⟩ := he
  exact ⟨_, fun X L => pe_m1 F.slot_str_find F.type_str_find mt_find (ho X L) (he X L) (hs X) (hb X) hl, m1_core m1_find so se⟩
theorem de_starts (hn : name = "startswith" := by rfl) (ho : DK C o mo) (he : DK C e me) : DE C (.Call (.Attribute o name apos) [e] [] pos) (mM1 dStarts mo me) := by
  subst hn
  obtain ⟨to, ho, so⟩ := ho
  obtain ⟨te, he, se⟩ := he
  exact ⟨_, fun X L => pe_m1 F.slot_str_startswith F.type_str_startswith mt_startswith (ho X L) (he X L) (hs X) (hb X) hl, m1_core m1_starts so se⟩
end

/-! ### turned round -/
theorem str_rev (x : Str) (t u : Tok) : sliceMade x t none none (some (-1, u)) = Made.str ⟨x.cps.toList.reverse.toArray⟩ := by
  have e : (Builtin.Str.strSliceIndices none none (-1) x.length).filterMap (x.cps[·]?) = x.cps.toList.reverse := by
    show (sliceRange ((x.length : Int) - 1) (-1) (-1)).filterMap (x.cps[·]?) = _
    rw [PySem.W.krv_sliceRange, PySem.W.krv_range, List.filterMap_reverse]
    exact congrArg List.reverse (PySem.W.krv_all x.cps)
  unfold sliceMade
  rw [if_neg (by simp)]
  show Made.str ⟨((Builtin.Str.strSliceIndices none none (-1) x.length).filterMap (x.cps[·]?)).toArray⟩ = _
  rw [e]
def tRevS (te : TE) : TE := fun σ H Q => te σ H fun x H1 => ∃ z, x = .str z ∧ z.length ≤ sizeLine ∧ Q (.str ⟨z.cps.toList.reverse.toArray⟩) H1
theorem pe_revS {X : Cx} {te : TE} {k : Nat} {p1 p2 p3 : Pos} (he : PE X e te) : PE X (.Subscript e (.Slice none none (some (.UnaryOp .USub (.Constant (.int 1) k p1) p2)) p3) pos) (tRevS te) := by
  refine ⟨fun pins s σ H Q I h => ?_⟩
  refine Subscript_ (thn (he.run pins s σ H _ I h) fun v s1 ⟨x, H1, I1, r1, q1⟩ => ?_)
  obtain ⟨z, ex, hz, q⟩ := q1
  subst ex
  obtain ⟨t, rfl⟩ := r1
  have hst : PO X (some (.UnaryOp .USub (.Constant (.int 1) k p1) p2)) (tPart (tUn (rU fun i => .int (-i)) (tC (.int 1)))) := po_some (pe_un un_neg pe_int)
  refine wpAny_Slice (thn (po_none.run pins s1 σ H1 (fun o H2 => o = none ∧ H2 = H1) I1 ⟨rfl, rfl⟩) fun vl s2 ⟨l, H2, I2, pl, el, e2⟩ => ?_)
  subst el e2
  refine thn (po_none.run pins s2 σ H2 (fun o H3 => o = none ∧ H3 = H2) I2 ⟨rfl, rfl⟩) fun vu s3 ⟨u, H3, I3, pu, eu, e3⟩ => ?_
  subst eu e3
  refine thn (hst.run pins s3 σ H3 (fun o H4 => o = some (-1) ∧ H4 = H3) I3 ⟨1, rfl, -1, rfl, rfl, rfl⟩) fun vs s4 ⟨o, H4, I4, ps, eo, e4⟩ => ?_
  subst eo e4
  have I5 : Inv X pins σ H4 { s4 with heap := s4.heap.push { cls := .type "slice", data := .fields #[vl, vu, vs] } } := I4.kept (t' := s4.toks) fun b ob q => Heap.get?_push_of_some _ q
  obtain ⟨lz, rfl, hl⟩ := IsPart.raw pl
  obtain ⟨uz, rfl, hu⟩ := IsPart.raw pu
  obtain ⟨sz, rfl, hs⟩ := IsPart.raw ps
  show wpAny (model X.prog X.w) X.A (subscriptTail e (.Slice none none (some (.UnaryOp .USub (.Constant (.int 1) k p1) p2)) p3) (.str z t) (.ref s4.heap.objs.size)) (EP X pins σ Q) X.xe { s4 with heap := s4.heap.push { cls := .type "slice", data := .fields #[partValue lz, partValue uz, partValue sz] } }
  refine tail_any (ops := [.str z t, .ref s4.heap.objs.size]) (typeIs_str _ _ _) F.slot_str_getitem.lookup ?_ (by with_unfolding_all rfl)
  cases lz with
  | some q => cases hl
  | none =>
    cases uz with
    | some q => cases hu
    | none =>
      cases sz with
      | none => cases hs
      | some q =>
        obtain ⟨i, u⟩ := q
        have hi : i = -1 := Option.some.inj hs
        subst hi
        refine wpAny_getItem_str_slice (l := none) (u := none) (st := some (-1, u)) ⟨_, Heap.get?_push_size _ rfl, rfl, rfl⟩ rfl ?_
        rw [str_rev]
        refine ⟨?_, .str _, H4, I5.tok _, ⟨_, rfl⟩, q⟩
        show (z.cps.toList.reverse.toArray).size ≤ sizeLine
        rw [List.size_toArray, List.length_reverse, Array.length_toList]
        exact hz
def revS : D → Option D
  | .str s => if s.length ≤ SZ then some (.str s.reverse) else none
  | _ => none
def mRevS (m : M Pk) : M D := m.bind fun p => M.look p fun x => M.opt (revS x)
theorem de_revS {m : M Pk} {k : Nat} {p1 p2 p3 : Pos} (h : DK C e m) : DE C (.Subscript e (.Slice none none (some (.UnaryOp .USub (.Constant (.int 1) k p1) p2)) p3) pos) (mRevS m) := by
  obtain ⟨t, ht, hs⟩ := h
  refine ⟨tRevS t, fun X L => pe_revS (ht X L), fun ρ S σ g Q st h => hs ρ S σ g _ st (postG_bind h fun p ρ1 S1 v g1 _ st1 le1 r1 h1 => ?_)⟩
  obtain ⟨x, ex, h2⟩ := look_post h1
  obtain ⟨d, ed, h3⟩ := opt_post h2
  unfold revS at ed
  split at ed
  · split at ed
    · rename_i s hz
      cases ed
      have rx := pk_get st1 r1 ex
      rw [RN_str] at rx; subst rx
      refine ⟨_, rfl, by rw [mkS_len, SZ_eq]; exact hz, h3 _ g1 st1 (GLe.refl _ _) (R_str.mpr ?_)⟩
      rw [mkS_toList]
    · cases ed
  · cases ed
/-- lists -/
def revL : D → Option RV
  | .lst xs => some (.own xs.reverse)
  | .rol xs => some (.own xs.reverse)
  | _ => none
theorem Rs_rev {K : PySem.W.Frag} {F : Hp} {A : List Addr} : ∀ {ds : List D} {vs : List V}, Rs K F A ds vs → Rs K F A ds.reverse vs.reverse
  | [], vs, h => by rw [Rs_nil] at h; subst h; exact Rs_nil.mpr rfl
  | d :: ds, vs, h => by
    obtain ⟨v, r, rfl, h1, h2⟩ := Rs_cons.mp h
    rw [List.reverse_cons, List.reverse_cons]
    exact Rs_append (Rs_rev h2) (Rs_one h1)
def mRevL (m : M Pk) : M RV := m.bind fun p => M.look p fun x => M.opt (revL x)
theorem do_revL {m : M Pk} {k : Nat} {p1 p2 p3 : Pos} (h : DK C e m) : DO C (.Subscript e (.Slice none none (some (.UnaryOp .USub (.Constant (.int 1) k p1) p2)) p3) pos) (mRevL m) := by
  obtain ⟨t, ht, hs⟩ := h
  refine ⟨tRevL C.K t, fun X L => by have := pe_revL (pos := pos) (k := k) (p1 := p1) (p2 := p2) (p3 := p3) (ht X L); rw [L.K] at this; exact this, fun ρ S σ g Q st h => hs ρ S σ g _ st (postG_bind h fun p ρ1 S1 v g1 _ st1 le1 r1 h1 => ?_)⟩
  obtain ⟨x, ex, h2⟩ := look_post h1
  obtain ⟨d, ed, h3⟩ := opt_post h2
  have rx := pk_get st1 r1 ex
  have sq : ∃ a vs ys, v = .ref a ∧ SqL C.K g1.H a vs ∧ Rs C.K g1.F g1.A ys vs ∧ d = .own ys.reverse := by
    cases x with
    | lst ys => cases ed; obtain ⟨a, vs, q1, q2, q3⟩ := rx; exact ⟨a, vs, ys, q1, SqL.of q2, q3, rfl⟩
    | rol ys => cases ed; obtain ⟨a, vs, q1, q2, q3⟩ := RN_rol.mp rx; exact ⟨a, vs, ys, q1, st1.wd.sub.l q2, q3, rfl⟩
    | _ => cases ed
  obtain ⟨a, vs, ys, rfl, q1, q2, rfl⟩ := sq
  exact ⟨a, vs, rfl, q1, fun p hp => h3 _ (g1.pv p (.lst vs.reverse)) (st1.priv hp) (Stt.le_pv hp) (own_new st1 hp (Rs_rev q2))⟩
end
end Thr
noncomputable section
namespace Thr
open PySem PySem.Spec PyProof.Rows L2 RZ
open PySem.Froz (sObj itObj itEnd tupObj stopObj endHeap addTx tailTx TxOk sing next_x end_x add_x add_ok SD)

/-! ### the set of a text's signs -/
def keyT (e : Int × Value) : Str := PyProof.Rows.strOf e.2
structure TxR (P : Program) (w : World) (D : SD) (l : List Str) : Prop where
  ok : TxOk P w D l
  ris : Ris D.2.2.place.toList
  led : w.params.followText "set-order" = true ∨ D.2.2.led = true
  nd : (D.1.toList.map keyT).Nodup
section
variable {P : Program} {w : World} {A : Around} {E : Value → Shared → Prop} {s : Shared}
theorem keyT_of {D : SD} {l : List Str} (F : TxOk P w D l) {e : Int × Value} (he : e ∈ D.1.toList) : ∃ u, e.2 = .str (keyT e) u ∧ keyT e ∈ l := by
  obtain ⟨⟨k, hk, _⟩, _⟩ := F.el e he
  obtain ⟨u, eu⟩ := Value.isStrOf_shape (x := k) (v := e.2) hk
  have : keyT e = k := by unfold keyT; rw [eu]; rfl
  rw [this]
  exact ⟨u, eu, (F.mem k).mpr ⟨e, he, hk⟩⟩
theorem keyT_mem {D : SD} {l : List Str} (F : TxOk P w D l) {k : Str} (hk : k ∈ l) : k ∈ D.1.toList.map keyT := by
  obtain ⟨e, he, q⟩ := (F.mem k).mp hk
  obtain ⟨u, eu⟩ := Value.isStrOf_shape (x := k) (v := e.2) q
  exact List.mem_map.mpr ⟨e, he, by unfold keyT; rw [eu]; rfl⟩
theorem tail_R {ep : Nat} {es1 : Array (Int × Value)} {t2 : SetTable} {wd : Bool} {l : List Str} (R : TxR P w (es1, ep, t2) l) : TxR P w (tailTx ep es1 t2 wd) l := by
  have ok := PySem.Froz.tail_ok (wasDummy := wd) R.ok
  unfold tailTx at ok ⊢
  by_cases c : (!wd && t2.tooFull) = true
  · rw [if_pos c] at ok ⊢
    exact ⟨ok, relayAll_ris t2 es1 _, R.led.imp id fun z => (relayAll_led t2 es1 _).trans z, ((relayAll_perm t2 es1 _).map keyT).nodup_iff.mpr R.nd⟩
  · rw [if_neg c] at ok ⊢
    exact ⟨ok, R.ris, R.led, R.nd⟩
theorem add_R {D : SD} {l : List Str} {k : Str} (u : Tok) (R : TxR P w D l) (hk : k ∉ l) : TxR P w (addTx (hashStr w k) (.str k u) D) (k :: l) := by
  obtain ⟨es, ep, t⟩ := D
  have pm := layNew_perm t es (hashStr w k) (.str k u)
  have rs := layNew_ris t es (hashStr w k) (.str k u) R.ris
  have ld := layNew_led t es (hashStr w k) (.str k u)
  have ft := layNew_fits t es (hashStr w k) (.str k u)
  rw [Array.toList_push] at pm
  have nd : ((layNew t es (hashStr w k) (.str k u)).1.toList.map keyT).Nodup := by
    refine ((pm.trans (List.perm_append_singleton _ _)).map keyT).nodup_iff.mpr ?_
    rw [List.map_cons]
    refine List.nodup_cons.mpr ⟨fun m => ?_, R.nd⟩
    obtain ⟨e, he, q⟩ := List.mem_map.mp m
    obtain ⟨_, _, z⟩ := keyT_of R.ok he
    rw [q] at z
    exact hk z
  refine tail_R ⟨R.ok.push (by rw [Array.toList_push]; exact pm) ?_, ?_, R.led.imp id fun z => ?_, nd⟩
  · by_cases c : (layNew t es (hashStr w k) (.str k u)).2.1.plain = true
    · rw [if_pos c]; exact SetTable.fits_plain_off ft
    · rw [if_neg c]; exact ft
  · by_cases c : (layNew t es (hashStr w k) (.str k u)).2.1.plain = true
    · rw [if_pos c]; exact rs
    · rw [if_neg c]; exact rs
  · by_cases c : (layNew t es (hashStr w k) (.str k u)).2.1.plain = true
    · rw [if_pos c]; exact ld.trans z
    · rw [if_neg c]; exact ld.trans z
theorem add_old {a : Addr} {T : String} {D : SD} {l : List Str} {k : Str} {u : Tok} {Q : Bool → Shared → Prop} (ho : s.heap.get? a = some (sObj T D)) (F : TxOk P w D l) (hk : k ∈ l) (hb : l.length < scanBound) (h : Q false s) : wpAny (model P w) A (setAddHashed a (.str k u) (hashStr w k)) Q E s := by
  obtain ⟨es, ep, t⟩ := D
  have hz : es.size = l.length := F.sz
  unfold setAddHashed setAddHashedIn
  refine wpAny_holding (wpAny_bind (wpAny_setState_of ho rfl F.fit ?_))
  dsimp only
  rw [byScan_of (knd := strKind P w) rfl (show es.size < scanBound by omega) F.el, if_pos rfl]
  unfold setAddByScan
  refine wpAny_bind (wpAny_bind (wpAny_rule (wpAny_bind (wpAny_setScan_of (knd := strKind P w) (k := k) (PySem.Froz.is_str k u) ho rfl F.fit F.el ?_))))
  cases q : List.findIdx? (fun e => (strKind P w).is k e.2) es.toList with
  | some j => exact wpAny_pure (wpAny_pure h)
  | none =>
    obtain ⟨e, he, z⟩ := (F.mem k).mp hk
    rw [List.findIdx?_eq_none_iff.mp q e he] at z
    cases z
end
section
variable {P : Program} {w : World} {A : Around} {R : Result → Shared → Prop}
theorem end_keep {h : Heap} {it b : Addr} {i : Nat} {o : Obj} (hb : b ≠ it) (e : h.get? b = some o) : (endHeap h it i).get? b = some o := by
  unfold endHeap
  exact Heap.get?_push_of_some _ (Heap.get?_push_of_some _ (Heap.get?_update_of_ne _ (Ne.symm hb) e))
theorem sing_inj {c d : Nat} (h : sing c = sing d) : c = d := by
  have q : [c] = [d] := congrArg (fun y : Str => y.cps.toList) h
  exact (List.cons.inj q).1
theorem set_loop {a it : Addr} (hne : a ≠ it) {x : Str} {u : Tok} (hh : A.handled = none) : ∀ (cs : List Nat) (i : Nat) (D : SD) (l : List Str) (s : Shared), x.cps.toList.drop i = cs → s.heap.get? a = some (sObj "set" D) → s.heap.get? it = some (itObj x u i) →
    TxR P w D l → l.length + cs.length < scanBound → (∀ k, k ∈ l → ∃ c, k = sing c) →
    (∀ h' tk D' l', (∀ b o, b ≠ a → b ≠ it → s.heap.get? b = some o → h'.get? b = some o) → h'.get? a = some (sObj "set" D') → TxR P w D' l' → l'.length < scanBound → (∀ k, k ∈ l' → ∃ c, k = sing c) → (∀ c, sing c ∈ l' ↔ sing c ∈ l ∨ c ∈ cs) → R (.ok (.ret .none)) { s with heap := h', toks := tk }) →
    codeAny (model P w) A (.builtin "set.update.loop" ⟨[.ref a, .ref it], []⟩) R s
  | [], i, D, l, s, hd, ha, hit, F, hb, hs, h => by
    refine codeAny_builtin PyProof.Rows.F.entry_set_update_loop ?_
    rw [Around.under_plainId PyProof.Rows.F.plain_set_update_loop _]
    show wpAny _ A.in1 (pyNext (.ref it) >>= _) _ _ s
    refine wpAny_bind (end_x (u := u) (by exact hh) hit (PySem.Froz.at_end hd) (show wpAny _ A.in1 (ret Value.none) _ _ _ from wpAny_pure ?_))
    exact h _ s.toks D l (fun b o h1 h2 e => end_keep h2 e) (end_keep hne ha) F (by simpa using hb) hs fun c => by simp
  | c :: r, i, D, l, s, hd, ha, hit, F, hb, hs, h => by
    obtain ⟨hx, hd2⟩ := PySem.Froz.at_of hd
    have hb2 : l.length + (r.length + 1) < scanBound := hb
    refine codeAny_builtin PyProof.Rows.F.entry_set_update_loop ?_
    rw [Around.under_plainId PyProof.Rows.F.plain_set_update_loop _]
    show wpAny _ A.in1 (pyNext (.ref it) >>= _) _ _ s
    refine wpAny_bind (next_x (u := u) hit hx ?_)
    show wpAny _ A.in1 (holding [Value.str (sing c) s.toks] (setAdd a (.str (sing c) s.toks)) >>= _) _ _ _
    refine wpAny_bind (wpAny_holding ?_)
    unfold setAdd
    refine wpAny_holding (wpAny_bind ((strKind P w).pyHash (k := sing c) (PySem.Froz.is_str _ _) ?_))
    have ha1 : (s.heap.update it (fun _ => itObj x u (i + 1))).get? a = some (sObj "set" D) := Heap.get?_update_of_ne _ (Ne.symm hne) ha
    have hi1 : (s.heap.update it (fun _ => itObj x u (i + 1))).get? it = some (itObj x u (i + 1)) := PySem.Froz.get_upd _ hit rfl
    by_cases hc : sing c ∈ l
    · refine add_old (l := l) (D := D) (T := "set") (s := { s with heap := s.heap.update it (fun _ => itObj x u (i + 1)), toks := s.toks + 1 + 1 }) ha1 F.ok hc (by omega) ?_
      refine wpAny_pure ⟨plainId_quiet PyProof.Rows.F.plain_set_update_loop _, set_loop hne hh r (i + 1) D l _ hd2 ha1 hi1 F (by omega) hs fun h' tk D' l' k1 k2 k3 k4 k5 k6 => ?_⟩
      refine h h' tk D' l' (fun b o b1 b2 e => k1 b o b1 b2 (Heap.get?_update_of_ne _ (Ne.symm b2) e)) k2 k3 k4 k5 fun d => (k6 d).trans ⟨fun z => z.imp id fun q => List.mem_cons_of_mem _ q, fun z => ?_⟩
      rcases z with z | z
      · exact .inl z
      · rcases List.mem_cons.mp z with q | q
        · exact .inl (q ▸ hc)
        · exact .inr q
    · refine add_x (l := l) (D := D) (T := "set") (s := { s with heap := s.heap.update it (fun _ => itObj x u (i + 1)), toks := s.toks + 1 + 1 }) ha1 F.ok hc (by omega) ?_
      have F' := add_R s.toks F hc
      generalize addTx (hashStr w (sing c)) (.str (sing c) s.toks) D = D1 at F' ⊢
      have ha2 : ((s.heap.update it (fun _ => itObj x u (i + 1))).update a (fun _ => sObj "set" D1)).get? a = some (sObj "set" D1) := PySem.Froz.get_upd _ ha1 rfl
      have hi2 : ((s.heap.update it (fun _ => itObj x u (i + 1))).update a (fun _ => sObj "set" D1)).get? it = some (itObj x u (i + 1)) := Heap.get?_update_of_ne _ hne hi1
      refine wpAny_pure ⟨plainId_quiet PyProof.Rows.F.plain_set_update_loop _, set_loop hne hh r (i + 1) D1 (sing c :: l) _ hd2 ha2 hi2 F' (by show l.length + 1 + r.length < scanBound; omega) (fun k hk => ?_) fun h' tk D' l' k1 k2 k3 k4 k5 k6 => ?_⟩
      · rcases List.mem_cons.mp hk with q | q
        · exact ⟨c, q⟩
        · exact hs k q
      · refine h h' tk D' l' (fun b o b1 b2 e => k1 b o b1 b2 (Heap.get?_update_of_ne _ (Ne.symm b1) (Heap.get?_update_of_ne _ (Ne.symm b2) e))) k2 k3 k4 k5 fun d => (k6 d).trans ⟨fun z => ?_, fun z => ?_⟩
        · rcases z with z | z
          · rcases List.mem_cons.mp z with q | q
            · exact .inr (by rw [sing_inj q]; exact List.mem_cons_self ..)
            · exact .inl q
          · exact .inr (List.mem_cons_of_mem _ z)
        · rcases z with z | z
          · exact .inl (List.mem_cons_of_mem _ z)
          · rcases List.mem_cons.mp z with q | q
            · exact .inl (by rw [q]; exact List.mem_cons_self ..)
            · exact .inr q
end

/-! ### set(text) -/
theorem sub_str_set : isSubtype (.type "str") (.type "set") = pure false := by rw [isSubtype_type]; kernel_rfl
theorem sub_str_fset : isSubtype (.type "str") (.type "frozenset") = pure false := by rw [isSubtype_type]; kernel_rfl
section
variable {P : Program} {w : World} {A : Around} {E : Value → Shared → Prop} {s : Shared}
def setO0 (w : World) : Obj := { cls := .type "set", dict := none, data := .set #[] 0 (.fresh 0 0 (!w.params.followText "set-order")) }
theorem code_set1 (v : Value) {Q : Value → Shared → Prop} (h : Q (.ref s.heap.objs.size) { s with heap := s.heap.push (setO0 w) }) :
    codeAny (model P w) A (.call (.builtin "set.__new__") ⟨[.type "set", v], []⟩) (wants Q E) s := by
  refine codeAny_of_tree (show wpAny _ A.in1 (do checkBuiltinCall "set.__new__" ⟨[.type "set", v], []⟩; again (.builtin "set.__new__" ⟨[.type "set", v], []⟩)) _ _ s from ?_)
  refine wpAny_bind (wpAny_of_eq (PySem.F.newCall_set_1 v) (wpAny_pure ⟨plainId_quiet PySem.F.plain_set_new _, codeAny_builtin PySem.F.entry_set_new ?_⟩))
  rw [Around.under_plainId PySem.F.plain_set_new _]
  unfold Builtin.«set.__new__» Builtin.Frozenset.newClass
  have hsub := sub_set_self
  obtain ⟨hp, g, d, tk, os⟩ := s
  dsimp only
  wp_walk
  refine wpAny_askSetting (wpAny_pure ?_)
  dsimp only
  simp only [newObj]
  exact wpAny_bind (wpAny_alloc (wpAny_pure (wpAny_pure h)))
theorem fresh_R : TxR P w (#[], 0, .fresh 0 0 (!w.params.followText "set-order")) [] := by
  refine ⟨TxOk.nil rfl, List.Pairwise.nil, ?_, List.nodup_nil⟩
  show _ ∨ (!w.params.followText "set-order") = true
  cases w.params.followText "set-order"
  · exact .inr rfl
  · exact .inl rfl
set_option maxHeartbeats 8000000 in
theorem call_setT {x : Str} {t : Tok} {Q : Value → Shared → Prop} (hh : A.handled = none) (ha : x.cps.all (· < 128) = true) (hb : x.cps.toList.length < scanBound)
    (h : ∀ h' tk D l, (∀ b o, s.heap.get? b = some o → h'.get? b = some o) → h'.get? s.heap.objs.size = some (sObj "set" D) → TxR P w D l → l.length < scanBound → (∀ k, k ∈ l → ∃ c, k = sing c) → (∀ c, sing c ∈ l ↔ c ∈ x.cps.toList) → Q (.ref s.heap.objs.size) { s with heap := h', toks := tk }) :
    wpAny (model P w) A (call (.type "set") [.str x t]) Q E s := by
  obtain ⟨c, tl, hmro⟩ := PySem.F.called_set.mro
  have hmade := PySem.F.called_set.made
  have hsub := PySem.F.called_set.sub
  refine wpAny_call (codeAny_of_tree (show wpAny _ _ (callAny (.type "set") _) _ _ _ from wpAny_pure ⟨Code.quiet_builtin _ (by decide +kernel), codeAny_builtin PySem.F.entry_type_call ?_⟩))
  rw [Around.under_plain (weight_type_call_type "set" [.str x t] []) rfl]
  have h1 := PySem.F.called_set.notType
  have h2 := PySem.F.called_set.canCreate
  have hct := PySem.F.typeCall_set_1 (.str x t)
  repeat (any_goals (first | assumption | wp_step))
  refine codeAny_mono (code_set1 (.str x t) (E := E) (Q := fun obj s₁ => obj = .ref s.heap.objs.size ∧ s₁ = { s with heap := s.heap.push (setO0 w) }) ⟨rfl, rfl⟩) fun r s₁ hr => ?_
  cases r with
  | error e => exact hr
  | ok fl =>
    cases fl with
    | ret obj =>
      obtain ⟨rfl, rfl⟩ := hr
      have hS : (s.heap.push (setO0 w)).get? s.heap.objs.size = some (setO0 w) := Heap.get?_push_size _ rfl
      have hT : Shared.TypeIs { s with heap := s.heap.push (setO0 w) } (.ref s.heap.objs.size) "set" := ⟨_, hS, rfl⟩
      have hli := PySem.F.called_set.init.lookup
      have hbi := PySem.F.called_set.init.bind (.ref s.heap.objs.size)
      repeat (any_goals (first | assumption | wp_step))
      refine codeAny_mono (codeAny_call_builtin (R := wants (fun r s₂ => r = .none ∧ Q (.ref s.heap.objs.size) s₂) E) PySem.F.called_set.init.plain PySem.F.entry_set_init (check_set_init_1 hT ?_)) fun r₂ s₂ hr₂ => ?_
      · have hsls := sub_str_set
        have hslf := sub_str_fset
        have hne : (Value.type "str" == Value.type "dict") = false := by decide
        unfold Builtin.«set.__init__» noKeywords Builtin.Frozenset.updateFrom
        generalize hPI : pyIter = PI
        wp_walk
        subst hPI
        refine wpAny_pyIter_ascii ha (wpAny_bind (wpAny_runValue ?_))
        have e1 : (s.heap.push (setO0 w)).objs.size = s.heap.objs.size + 1 := Heap.size_push _ _
        have hna : s.heap.objs.size ≠ (s.heap.push (setO0 w)).objs.size := by rw [e1]; exact Nat.ne_of_lt (Nat.lt_succ_self _)
        refine set_loop (P := P) (w := w) hna (u := t) (x := x) (by simp [hh]) x.cps.toList 0 (#[], 0, .fresh 0 0 (!w.params.followText "set-order")) [] _ rfl (Heap.get?_push_of_some _ hS) (Heap.get?_push_size _ rfl) fresh_R (by simpa using hb) (fun k hk => by simp at hk) fun h' tk D' l' k1 k2 k3 k4 k5 k6 => ?_
        show wpAny _ _ _ _ _ _
        refine wpAny_pure (show wpAny _ _ (ret Value.none) _ _ _ from wpAny_pure ⟨rfl, h h' tk D' l' (fun b o e => ?_) k2 k3 k4 k5 fun c => (k6 c).trans (by simp)⟩)
        have hlt := Heap.lt_size e
        exact k1 b o (Nat.ne_of_lt hlt) (by rw [e1]; exact Nat.ne_of_lt (Nat.lt_succ_of_lt hlt)) (Heap.get?_push_of_some _ (Heap.get?_push_of_some _ e))
      · cases r₂ with
        | error e => exact hr₂
        | ok fl₂ =>
          cases fl₂ with
          | ret r =>
            obtain ⟨rfl, hq⟩ := hr₂
            repeat (any_goals (first | assumption | wp_step))
          | _ => exact hr₂.elim
    | _ => exact hr.elim
end
end Thr
end
noncomputable section
namespace Thr
open PySem PySem.Spec PyProof.Rows L2 RZ
open PySem.Froz (sObj sing SD)

/-! ### sorted rows of texts -/
def leS (a b : Str) : Prop := a.cps.toList ≤ b.cps.toList
theorem rising_le : ∀ {p : Str} {l : List Str}, risingS p l = true → (∀ k ∈ l, leS p k) ∧ l.Pairwise leS
  | p, [], _ => ⟨fun k hk => by simp at hk, List.Pairwise.nil⟩
  | p, x :: r, h => by
    unfold risingS at h
    rw [Bool.and_eq_true] at h
    obtain ⟨h1, h2⟩ := h
    have le : leS p x := by
      rw [ltCps_eq] at h1
      exact List.not_lt.mp (by simpa using h1)
    obtain ⟨q1, q2⟩ := rising_le h2
    refine ⟨fun k hk => ?_, List.pairwise_cons.mpr ⟨q1, q2⟩⟩
    rcases List.mem_cons.mp hk with z | z
    · rw [z]; exact le
    · exact List.le_trans le (q1 k z)
theorem sorted_le {l : List Str} (h : sortedS l = true) : l.Pairwise leS := by
  cases l with
  | nil => exact List.Pairwise.nil
  | cons x r =>
    obtain ⟨q1, q2⟩ := rising_le (show risingS x r = true from h)
    exact List.pairwise_cons.mpr ⟨q1, q2⟩
theorem leS_anti {a b : Str} (h : leS a b) (h' : leS b a) : a = b := by
  have : a.cps.toList = b.cps.toList := List.le_antisymm h h'
  cases a; cases b
  simpa using this
theorem sorted_uniq {l l' : List Str} (h : l.Pairwise leS) (h' : l'.Pairwise leS) (p : l.Perm l') : l = l' :=
  List.Perm.eq_of_pairwise (fun a b _ _ x y => leS_anti x y) h h' p
/-! insertion -/
def insD (c : Nat) : List Nat → List Nat
  | [] => [c]
  | d :: r => if c < d then c :: d :: r else if c = d then d :: r else d :: insD c r
def srtD : List Nat → List Nat
  | [] => []
  | c :: r => insD c (srtD r)
theorem insD_mem (c x : Nat) : ∀ l : List Nat, x ∈ insD c l ↔ x = c ∨ x ∈ l
  | [] => by simp [insD]
  | d :: r => by
    unfold insD
    split
    · simp
    · split
      · rename_i h; subst h; simp
      · rw [List.mem_cons, insD_mem c x r, List.mem_cons]
        constructor
        · rintro (h | h | h) <;> simp [h]
        · rintro (h | h | h) <;> simp [h]
theorem srtD_mem (x : Nat) : ∀ l : List Nat, x ∈ srtD l ↔ x ∈ l
  | [] => by simp [srtD]
  | c :: r => by unfold srtD; rw [insD_mem, srtD_mem x r, List.mem_cons]
theorem insD_pw (c : Nat) : ∀ l : List Nat, l.Pairwise (· < ·) → (insD c l).Pairwise (· < ·)
  | [], _ => by simp [insD]
  | d :: r, h => by
    obtain ⟨h1, h2⟩ := List.pairwise_cons.mp h
    unfold insD
    split
    · rename_i hc
      refine List.pairwise_cons.mpr ⟨fun y hy => ?_, h⟩
      rcases List.mem_cons.mp hy with z | z
      · omega
      · have := h1 y z; omega
    · split
      · exact h
      · refine List.pairwise_cons.mpr ⟨fun y hy => ?_, insD_pw c r h2⟩
        rcases (insD_mem c y r).mp hy with z | z
        · omega
        · exact h1 y z
theorem srtD_pw : ∀ l : List Nat, (srtD l).Pairwise (· < ·)
  | [] => List.Pairwise.nil
  | c :: r => insD_pw c _ (srtD_pw r)
theorem sing_le {c d : Nat} (h : c ≤ d) : leS (sing c) (sing d) := by
  show ([c] : List Nat) ≤ [d]
  rw [← List.not_lt]
  intro z
  have : ltCps [d] [c] = true := by rw [ltCps_eq]; simpa using z
  unfold ltCps at this
  simp [ltCps] at this
  omega

/-! ### sorted(set(text)) -/
def SetTO (P : Program) (w : World) (a : Addr) (l : List Str) : HO := .ext fun h => ∃ D, h.get? a = some (sObj "set" D) ∧ TxR P w D l
theorem setTO_new {P : Program} {w : World} {H : Hp} {h : Heap} {a : Addr} {D : SD} {l : List Str} (e : h.get? a = some (sObj "set" D)) (R : TxR P w D l) : ObjOk P w H h a (SetTO P w a l) :=
  ⟨⟨D, e, R⟩, ⟨_, e⟩, fun h1 h2 ⟨D', e', R'⟩ k => ⟨D', k _ e', R'⟩⟩
def rSetT (P : Program) (w : World) : List V → Hp → VK → Prop := fun xs H Q => ∃ z : List Nat, xs = [.str (mkS z)] ∧ z.all (fun c => decide (c < 128)) = true ∧ z.length < 4000 ∧
    ∀ p l, H p = none → l.length < scanBound → (∀ k, k ∈ l → ∃ c, k = sing c) → (∀ c, sing c ∈ l ↔ c ∈ z) → Q (.ref p) (upd H p (SetTO P w p l))
def rSrtT (P : Program) (w : World) : List V → Hp → VK → Prop := fun xs H Q => ∃ a l, xs = [.ref a] ∧ H a = some (SetTO P w a l) ∧ l.length < scanBound ∧
    ∀ (ys : List Str) (p : Addr), ys.Nodup → ys.Pairwise leS → (∀ k, k ∈ ys ↔ k ∈ l) → H p = none → Q (.ref p) (upd H p (.lst (ys.map V.str)))
section
variable {X : Cx}
theorem cr_setT (hc : X.calm = true) : CallR X (.type "set") (rSetT X.prog X.w) := by
  intro pins s σ H xs us Q I r h
  obtain ⟨z, rfl, h1, h2, q⟩ := h
  obtain ⟨u, rfl, rx⟩ := vals1 r
  obtain ⟨t, rfl⟩ := rx
  refine call_setT (I.ok.hd hc) (by simpa [mkS] using h1) (by simp only [mkS]; unfold scanBound; omega) fun h' tk D l k1 k2 k3 k4 k5 k6 => ?_
  exact ⟨.ref s.heap.objs.size, _, I.laid (t' := tk) k1 (Nat.le_refl _) (setTO_new k2 k3), rfl, q _ l (I.hok.fresh (Nat.le_refl _)) k4 k5 fun c => (k6 c).trans (by simp [mkS])⟩
theorem cr_sortedT0 (hc : X.calm = true) : CallR X (.builtin "sorted") (rSrtT X.prog X.w) := by
  intro pins s σ H xs us Q I r h
  obtain ⟨a, l, rfl, ha, hb, q⟩ := h
  obtain ⟨u, rfl, rx⟩ := vals1 r
  cases rx
  obtain ⟨⟨es, ep, t⟩, ho, R⟩ := (I.hok a _ ha).1
  have hsz : es.size = l.length := R.ok.sz
  refine Calls.call_function_entry kind_sorted plain_sorted entry_sorted (args_sorted1 _) ?_
  unfold Builtin.«sorted»
  refine wpAny_bind (m := checkCount "sorted" 1 1 _) (wpAny_pure (wpAny_bind (collect_set (A := X.A.in1) (I.ok.hd hc) ⟨_, ho, rfl, rfl⟩ R.ok.fit (show es.size < scanBound by omega) R.ris R.led fun s1 vs k1 hz g1 o1 pm => ?_)))
  have hvl : vs.length = l.length := by rw [pm.length_eq, List.length_map, Array.length_toList]; exact hsz
  have isS : ∀ v, v ∈ vs → ∃ x t, v = .str x t := fun v hv => by
    obtain ⟨e, he, z⟩ := List.mem_map.mp (pm.mem_iff.mp hv)
    obtain ⟨u, eu, _⟩ := keyT_of R.ok he
    exact ⟨_, u, z.symm.trans eu⟩
  have hS := strsAre_map vs isS
  have pk : (vs.map PyProof.Rows.strOf).Perm (es.toList.map keyT) := by
    have z := pm.map PyProof.Rows.strOf
    rw [List.map_map] at z
    exact z
  have hzl : vs.length ≤ sizeLine := by rw [hvl, sizeLine_eq]; unfold scanBound at hb; omega
  refine wpAny_bind (wpAny_newList ?_ hzl)
  have hoL : (s1.heap.push (seqObj "list" vs.toArray 0)).get? s1.heap.objs.size = some (seqObj "list" vs.toArray 0) := Heap.get?_push_size _ rfl
  show wpAny _ _ _ _ _ { s1 with heap := s1.heap.push (seqObj "list" vs.toArray 0) }
  refine wpAny_bind (wpAny_holding (wpAny_call_entry PyProof.Rows.slot_list_sort ⟨_, hoL, rfl⟩ PyProof.Rows.entry_list_sort
    (list_sort_treeKSt strKind_oneLt (s := { s1 with heap := s1.heap.push (seqObj "list" vs.toArray 0) }) hoL hS.keysOf (fun v₁ v₂ rest e => keyKind_strs (by rw [← e]; exact hS)) hzl fun st' hp hs _ => ⟨_, rfl, ?_⟩) (PyProof.Rows.args_list_sort _)))
  obtain ⟨ys, e1, e2, e3⟩ := sorted_out_str hS hp hs
  obtain ⟨c, hcell⟩ := PyProof.Rows.sortedHeap_at (vs := vs) (out := (arrOf st').map (·.2)) hoL
  have pn := e2.trans pk
  have hn : H s1.heap.objs.size = none := I.hok.fresh hz
  have keep : ∀ b o, s.heap.get? b = some o → (sortedHeap (s1.heap.push (seqObj "list" vs.toArray 0)) s1.heap.objs.size vs ((arrOf st').map (·.2))).get? b = some o := fun b o e => by
    have z := k1 b o e
    have hlt := Heap.lt_size z
    rw [sortedHeap_old (Nat.ne_of_lt hlt) (by rw [size_push']; exact Nat.lt_succ_of_lt hlt)]
    exact Heap.get?_push_of_some _ z
  have hlen : (ys.map V.str).length ≤ sizeLine := by rw [List.length_map, e2.length_eq, List.length_map]; exact hzl
  obtain ⟨hp1, gn, dr, tk, os⟩ := s1
  cases g1; cases o1
  have J : Inv X pins σ (upd H hp1.objs.size (.lst (ys.map V.str))) { s with heap := sortedHeap (hp1.push (seqObj "list" vs.toArray 0)) hp1.objs.size vs ((arrOf st').map (·.2)), gens := s.gens, drawn := dr, toks := tk } :=
    I.call (ch := []) (Un.laid keep hz hn) (I.hok.laid keep hz ⟨hlen, ((arrOf st').map (·.2)).toList, c, vals_of_strs e1, by rw [Array.toArray_toList]; exact hcell⟩) I.bare (fun _ z => nomatch z)
  refine wpAny_pure ⟨_, rfl, .ref hp1.objs.size, _, J, rfl, q ys _ (pn.nodup_iff.mpr R.nd) (sorted_le e3) (fun k => ?_) hn⟩
  rw [pn.mem_iff]
  refine ⟨fun m => ?_, fun m => keyT_mem R.ok m⟩
  obtain ⟨e, he, z⟩ := List.mem_map.mp m
  obtain ⟨_, _, w⟩ := keyT_of R.ok he
  exact z ▸ w
end
/-! ### the mirror -/
def dSSet : D → Option RV
  | .str s => if (s.all (fun c => decide (c < 128)) && decide (s.length < 4000)) = true then some (.own ((srtD s).map fun c => .str [c])) else none
  | _ => none
def mSSet (m : M D) : M RV := m.bind fun d => M.opt (dSSet d)
theorem set_uniq {z : List Nat} {l ys : List Str} (hl : ∀ k, k ∈ l → ∃ c, k = sing c) (hz : ∀ c, sing c ∈ l ↔ c ∈ z) (nd : ys.Nodup) (pw : ys.Pairwise leS) (hm : ∀ k, k ∈ ys ↔ k ∈ l) : ys = (srtD z).map sing := by
  have pw2 : ((srtD z).map sing).Pairwise leS := by
    rw [List.pairwise_map]
    exact (srtD_pw z).imp fun h => sing_le (Nat.le_of_lt h)
  have nd2 : ((srtD z).map sing).Nodup := by
    unfold List.Nodup
    rw [List.pairwise_map]
    refine (srtD_pw z).imp fun h e => ?_
    have := sing_inj e
    omega
  refine sorted_uniq pw pw2 ((List.perm_ext_iff_of_nodup nd nd2).mpr fun k => ?_)
  rw [hm k, List.mem_map]
  constructor
  · intro m
    obtain ⟨c, rfl⟩ := hl k m
    exact ⟨c, (srtD_mem c z).mpr ((hz c).mp m), rfl⟩
  · rintro ⟨c, hc, rfl⟩
    exact (hz c).mpr ((srtD_mem c z).mp hc)
section
variable {C : Ctx} {e : Expr} {pos p1 p2 pos2 : Pos}
theorem do_sset {m : M D} {x y : Str} (hx : x = "sorted" := by rfl) (hy : y = "set" := by rfl) (hg : C.sc.names.lookup x = some .globalImplicit := by rfl) (hg2 : C.sc.names.lookup y = some .globalImplicit := by rfl) (hm : C.mg x = none) (hm2 : C.mg y = none) (h : DE C e m)
    (he : ∀ X : Cx, starEach [e] X.env = (false, eval e X.env) :: starEach [] X.env := by intros; rfl) (hpl : ∀ X : Cx, (backTo pos2 (starEach [] X.env)).any (·.1) = false := by intros; rfl)
    (he2 : ∀ X : Cx, starEach [.Call (.Name y p2) [e] [] pos2] X.env = (false, eval (.Call (.Name y p2) [e] [] pos2) X.env) :: starEach [] X.env := by intros; rfl) (hpl2 : ∀ X : Cx, (backTo pos (starEach [] X.env)).any (·.1) = false := by intros; rfl) :
    DO C (.Call (.Name x p1) [.Call (.Name y p2) [e] [] pos2] [] pos) (mSSet m) := by
  subst hx hy
  obtain ⟨t, ht, hs⟩ := h
  refine ⟨tCB (rSrtT C.prog C.w) (tCons (tCB (rSetT C.prog C.w) (tCons t tNil)) tNil), fun X L => ?_, fun ρ S σ g Q st h => ?_⟩
  · have q1 := pe_callTy (p := p2) (pos := pos2) (cr_setT L.calm) (show X.env.scope.names.lookup ("set" : Str) = some .globalImplicit by rw [L.sc]; exact hg2) (by rw [L.mg]; exact hm2) (by decide +kernel) (pa_cons (ht X L) pa_nil (he X)) (by decide) (by decide) (he X) (hpl X)
    have q2 := pe_callB (p := p1) (pos := pos) (cr_sortedT0 L.calm) (show X.env.scope.names.lookup ("sorted" : Str) = some .globalImplicit by rw [L.sc]; exact hg) (by rw [L.mg]; exact hm) (by decide +kernel) (pa_cons q1 pa_nil (he2 X)) (by decide) (by decide) (he2 X) (hpl2 X)
    rw [L.prog, L.w] at q2
    exact q2
  · refine hs ρ S σ g _ st (postG_bind h fun d ρ1 S1 v g1 _ st1 le1 r1 h1 => ?_)
    obtain ⟨rv, e1, h2⟩ := opt_post h1
    cases d with
    | str z =>
      unfold dSSet at e1
      dsimp only at e1
      by_cases hz : (z.all (fun c => decide (c < 128)) && decide (z.length < 4000)) = true
      · rw [if_pos hz] at e1
        cases e1
        rw [Bool.and_eq_true, decide_eq_true_eq] at hz
        rw [R_str] at r1; subst r1
        refine ⟨z, rfl, hz.1, hz.2, fun p l hp hb hl hm => ?_⟩
        refine ⟨p, l, rfl, upd_same, hb, fun ys p' nd pw hk hp' => ?_⟩
        have ey := set_uniq hl hm nd pw hk
        subst ey
        have st2 := st1.priv (o := SetTO C.prog C.w p l) hp
        have e3 : ((srtD z).map sing).map V.str = (((srtD z).map fun c => [c]).map mkS).map V.str := by
          simp only [List.map_map]
          rfl
        have rr : Rs C.K (g1.pv p (SetTO C.prog C.w p l)).F (g1.pv p (SetTO C.prog C.w p l)).A ((srtD z).map fun c => .str [c]) (((srtD z).map sing).map V.str) := by
          rw [e3]
          have := rs_strs (K := C.K) (F := (g1.pv p (SetTO C.prog C.w p l)).F) (A := (g1.pv p (SetTO C.prog C.w p l)).A) ((srtD z).map fun c => [c])
          rw [List.map_map] at this
          exact this
        have := h2 (.ref p') _ (st2.priv (o := .lst (((srtD z).map sing).map V.str)) hp') ((Stt.le_pv hp).trans (Stt.le_pv hp')) (rvr_mono _ _ _ _ _ (Stt.le_pv hp) (own_new st2 hp' rr))
        exact this
      · rw [if_neg hz] at e1; cases e1
    | _ => cases e1
/-! ### list(text) -/
def listS : D → Option RV
  | .str s => if s.length ≤ SZ then some (.own (s.map fun c => .str [c])) else none
  | _ => none
def mListS (m : M D) : M RV := m.bind fun d => M.opt (listS d)
theorem vals_get : ∀ {xs : List V} {us : List Value}, xs.length = us.length → (∀ (i : Nat) x u, xs[i]? = some x → us[i]? = some u → RelV x u) → Vals xs us
  | [], [], _, _ => .nil
  | x :: xs, u :: us, hl, h => .cons (h 0 x u rfl rfl) (vals_get (by simpa using hl) fun i a b ha hb => h (i + 1) a b (by simpa using ha) (by simpa using hb))
  | [], _ :: _, hl, _ => by simp at hl
  | _ :: _, [], hl, _ => by simp at hl
theorem items_strs {x : Str} {acc : Array Value} (h : ItemsOf (SignAt x) acc x.cps.size) : Vals ((x.cps.toList.map sing).map V.str) acc.toList := by
  obtain ⟨h1, h2⟩ := h
  refine vals_get ?_ fun i a b ha hb => ?_
  · simp [h1]
  · obtain ⟨c, u, hc, rfl⟩ := h2 i b (by simpa using hb)
    have hc' : x.cps.toList[i]? = some c := by simpa using hc
    simp [hc'] at ha
    subst ha
    exact ⟨u, rfl⟩
theorem cr_listS {X : Cx} (hc : X.calm = true) : CallR X (.type "list") (fun xs H Q => ∃ z : List Nat, xs = [.str (mkS z)] ∧ z.length ≤ sizeLine ∧ ∀ p, H p = none → Q (.ref p) (upd H p (.lst ((z.map sing).map V.str)))) := by
  intro pins s σ H xs us Q I r h
  obtain ⟨z, rfl, h2, q⟩ := h
  obtain ⟨u, rfl, rx⟩ := vals1 r
  obtain ⟨t, rfl⟩ := rx
  refine call_list_str (I.ok.hd hc) _ t (fun h' tk acc c k1 k2 k3 => ?_) (by simpa [mkS] using h2)
  refine ⟨.ref s.heap.objs.size, _, I.laid (t' := tk) k1 (Nat.le_refl _) (show ObjOk X.prog X.w _ h' _ (.lst ((z.map sing).map V.str)) from ⟨by simpa using h2, acc.toList, c, ?_, by rw [Array.toArray_toList]; exact k2⟩), rfl, q _ (I.hok.fresh (Nat.le_refl _))⟩
  have := items_strs k3
  simpa [mkS] using this
theorem do_listS {m : M D} {x : Str} (hx : x = "list" := by rfl) (hg : C.sc.names.lookup x = some .globalImplicit := by rfl) (hm : C.mg x = none) (h : DE C e m)
    (he : ∀ X : Cx, starEach [e] X.env = (false, eval e X.env) :: starEach [] X.env := by intros; rfl) (hpl : ∀ X : Cx, (backTo pos (starEach [] X.env)).any (·.1) = false := by intros; rfl) : DO C (.Call (.Name x p1) [e] [] pos) (mListS m) := by
  subst hx
  obtain ⟨t, ht, hs⟩ := h
  refine ⟨_, fun X L => pe_callTy (p := p1) (pos := pos) (cr_listS L.calm) (show X.env.scope.names.lookup ("list" : Str) = some .globalImplicit by rw [L.sc]; exact hg) (by rw [L.mg]; exact hm) (by decide +kernel) (pa_cons (ht X L) pa_nil (he X)) (by decide) (by decide) (he X) (hpl X), fun ρ S σ g Q st h => ?_⟩
  refine hs ρ S σ g _ st (postG_bind h fun d ρ1 S1 v g1 _ st1 le1 r1 h1 => ?_)
  obtain ⟨rv, e1, h2⟩ := opt_post h1
  cases d with
  | str z =>
    unfold listS at e1
    dsimp only at e1
    by_cases hz : z.length ≤ SZ
    · rw [if_pos hz] at e1
      cases e1
      rw [R_str] at r1; subst r1
      refine ⟨z, rfl, by rw [SZ_eq]; exact hz, fun p hp => ?_⟩
      have rr : Rs C.K g1.F g1.A (z.map fun c => .str [c]) ((z.map sing).map V.str) := by
        have := rs_strs (K := C.K) (F := g1.F) (A := g1.A) (z.map fun c => [c])
        simp only [List.map_map] at this ⊢
        exact this
      exact h2 (.ref p) _ (st1.priv hp) (Stt.le_pv hp) (own_new st1 hp rr)
    · rw [if_neg hz] at e1; cases e1
  | _ => cases e1
end
end Thr
end
namespace Thr
open PySem PySem.Spec PyProof.Rows L2 RZ

/-! ### - a -/
def dNeg : D → Option D
  | .int i => some (.int (-i))
  | _ => none
def mNeg (m : M D) : M D := m.bind fun d => M.opt (dNeg d)
section
variable {C : Ctx} {e a b : Expr} {es : List Expr} {pos p1 p2 pos2 : Pos}
theorem de_neg {m : M D} (h : DE C e m) : DE C (.UnaryOp .USub e pos) (mNeg m) := by
  obtain ⟨t, ht, hs⟩ := h
  refine ⟨tUn (rU fun i => .int (-i)) t, fun X L => pe_un un_neg (ht X L), fun ρ S σ g Q st h => hs ρ S σ g _ st (postG_bind h fun d ρ1 S1 v g1 _ st1 le1 r1 h1 => ?_)⟩
  obtain ⟨x, e1, h2⟩ := opt_post h1
  unfold dNeg at e1
  split at e1
  · cases e1
    rw [R_int] at r1; subst r1
    exact ⟨_, rfl, h2 _ g1 st1 (GLe.refl _ _) dI⟩
  · cases e1
/-! ### aug-assign of a name, whole numbers -/
def dAddI : D → D → Option D
  | .int i, .int j => some (.int (i + j))
  | _, _ => none
def dSubI : D → D → Option D
  | .int i, .int j => some (.int (i - j))
  | _, _ => none
def sAug (i : Nat) (f : D → D → Option D) (m : M D) : M Fl := fun ρ S => match ρ[i]? with
  | some (.val x) => (match m ρ S with
    | .ok y ρ1 S1 => (match f x y with
      | some z => if i < ρ1.length then .ok .nx (ρ1.set i (.val z)) S1 else .bad
      | none => .bad)
    | .exc x ρ1 S1 => .exc x ρ1 S1
    | .bad => .bad)
  | _ => .bad
def AugS (ti : TIp) (f : D → D → Option D) : Prop := ∀ (K : PySem.W.Frag) F A x y z v u (H : Hp) (Q : VK), R K F A x v → R K F A y u → f x y = some z → (∀ w, R K F A z w → Q w H) → ti v u H Q
theorem ag_add : AugS (rI0 fun i j => .int (i + j)) dAddI := by
  intro K F A x y z v u H Q rx ry e k
  unfold dAddI at e
  split at e
  · rw [R_int] at rx ry; subst rx ry
    cases e
    exact ⟨_, _, rfl, rfl, k _ (R_int.mpr rfl)⟩
  · cases e
theorem ag_sub : AugS (rI0 fun i j => .int (i - j)) dSubI := by
  intro K F A x y z v u H Q rx ry e k
  unfold dSubI at e
  split at e
  · rw [R_int] at rx ry; subst rx ry
    cases e
    exact ⟨_, _, rfl, rfl, k _ (R_int.mpr rfl)⟩
  · cases e
theorem ds_aug {x : Str} {op : Operator} {ti : TIp} {f : D → D → Option D} {m : M D} (i : Nat) (hi : C.N[i]? = some x := by rfl) (hx : Sto C x := by first | exact Or.inl rfl | exact Or.inr ⟨rfl, rfl⟩) (hp : ∀ X : Cx, PIp X op ti) (ho : AugS ti f) (h : DE C e m) : DS C (.AugAssign (.Name x p1) op e pos) (sAug i f m) := by
  obtain ⟨t, ht, s1⟩ := h
  refine ⟨tAug i t ti, fun X L => ps_aug (by rw [L.N]; exact L.nd) (by rw [L.N]; exact hi) (by rw [L.sc]; exact hx.loc) (ht X L) (hp X) (by rw [L.sc]; exact hx.fn L), fun ρ S σ g Dn st h => ?_⟩
  unfold sAug at h
  cases e0 : ρ[i]? with
  | none => rw [e0] at h; exact h.elim
  | some sl =>
    rw [e0] at h
    cases sl with
    | val d =>
      dsimp only at h
      obtain ⟨_, v, q1, q2⟩ := st.at_ i _ e0
      have hσ : σ[i]? = some (some v) := by
        cases q : σ[i]? with
        | none => rw [q] at q1; cases q1
        | some o => rw [q] at q1; exact congrArg some q1
      refine ⟨v, hσ, s1 ρ S σ g _ st ?_⟩
      cases e1 : m ρ S with
      | ok y ρ1 S1 =>
        rw [e1] at h
        intro u g1 st1 le1 r1
        dsimp only at h
        cases e2 : f d y with
        | none => rw [e2] at h; exact h.elim
        | some z =>
          rw [e2] at h
          dsimp only at h
          by_cases hl : i < ρ1.length
          · rw [if_pos hl] at h
            refine ho C.K g1.F g1.A d y z v u g1.H _ (R_mono le1.le _ _ q2) r1 e2 fun w rw' => ?_
            exact h _ ⟨g1.F, g1.A, g1.H, fun j => if j = i then [] else g1.P j⟩ (st1.put_val hl rw') le1.le
          · rw [if_neg hl] at h; exact h.elim
      | exc x ρ1 S1 => rw [e1] at h; exact fun cls dd g' st' xr => h σ cls dd g' st' xr
      | bad => rw [e1] at h; exact h.elim
    | _ => exact h.elim

theorem do_one {op} {m : M RV} (h : DO C a m) : DO C (.BoolOp op [a] pos) m := by
  obtain ⟨t, ht, hs⟩ := h
  exact ⟨t, fun X L => pe_one (ht X L), hs⟩
theorem def0_bad {prog : Program} {w : World} {K : PySem.W.Frag} {mg : Str → Option Value} {base : Heap} {x qual : Str} {st : Stmt} {f : Addr} {fd : FuncData} {N ps : List Str} {k : Nat} (F : Fun K x qual st f fd) (S : FnScope N ps (defScope st)) (hm : mg x = some (.ref f)) (hb : L2.Binds K fd ps []) : Def0 prog w K mg base x (k + 1) ps (fun _ _ => .bad) := by
  have lk : ∃ oc od osl, K.lookup f = some ⟨oc, od, .func fd, osl⟩ := by
    obtain ⟨oc, od, _, _, _, _, _, _, osl, rfl, l, _⟩ := F.ex
    exact ⟨_, _, _, l⟩
  refine ⟨f, fd, hm, F.kp, hb, F.ok S (fun vs H Q E h => ?_) (fun cdv A outer s H vs Q E hr h => ?_), lk⟩
  · obtain ⟨F0, A0, ds, S0, W, r, h⟩ := h; exact h.elim
  · obtain ⟨F0, A0, ds, S0, W, r, h⟩ := h; exact h.elim
end
/-! ### calls by keyword -/
/-- parameters by their places in what is written -/
def permL {α : Type} : List Nat → List α → List α
  | [], _ => []
  | i :: is, l => match l[i]? with
    | some a => a :: permL is l
    | none => permL is l
theorem perm_vals : ∀ (is : List Nat) {vs : List V} {us : List Value}, Vals vs us → Vals (permL is vs) (permL is us)
  | [], _, _, _ => .nil
  | i :: is, vs, us, r => by
    unfold permL
    cases e : vs[i]? with
    | some v =>
      obtain ⟨u, e1, e2⟩ := r.get e
      rw [e1]
      exact .cons e2 (perm_vals is r)
    | none =>
      have : us[i]? = none := by
        rw [List.getElem?_eq_none_iff] at e ⊢
        rw [← r.length]; exact e
      rw [this]
      exact perm_vals is r
theorem perm_rs {K : PySem.W.Frag} {F : Hp} {A : List Addr} : ∀ (is : List Nat) {ds : List D} {vs : List V}, Rs K F A ds vs → Rs K F A (permL is ds) (permL is vs)
  | [], _, _, _ => Rs_nil.mpr rfl
  | i :: is, ds, vs, r => by
    unfold permL
    cases e : ds[i]? with
    | some v =>
      obtain ⟨u, e1, e2⟩ := Rs_get r e
      rw [e1]
      exact Rs_cons.mpr ⟨u, _, rfl, e2, perm_rs is r⟩
    | none =>
      have : vs[i]? = none := by
        rw [List.getElem?_eq_none_iff] at e ⊢
        rw [← Rs_len r]; exact e
      rw [this]
      exact perm_rs is r
/-- the keywords' values -/
def DKW (C : Ctx) (kws : List Keyword) (m : M (List D)) : Prop :=
  ∃ t, (∀ X, Lc C X → PK X kws t) ∧ ∀ ρ S σ g Q, Stt C ρ S σ g → PostG C g σ (fun _ g d v => Rs C.K g.F g.A d v) (m ρ S) Q → t σ g.H Q
section
variable {C : Ctx} {e a b : Expr} {es : List Expr} {kws : List Keyword} {pos p p1 : Pos} {nm : Option Str} {x : Str} {k : Nat} {ps ks : List Str} {f : MF}
theorem dkw_nil : DKW C [] mNil := ⟨tNil, fun X L => pk_nil, fun ρ S σ g Q st h => h [] g st (GLe.refl _ _) (Rs_nil.mpr rfl)⟩
theorem dkw_cons {m : M D} {n : M (List D)} (h : DE C e m) (h' : DKW C kws n) : DKW C (⟨nm, e, p1⟩ :: kws) (mCons m n) := by
  obtain ⟨t, ht, s1⟩ := h
  obtain ⟨t', ht', s2⟩ := h'
  exact ⟨tCons t t', fun X L => pk_cons (ht X L) (ht' X L), fun ρ S σ g Q st h => s1 ρ S σ g _ st (postG_bind h fun d ρ1 S1 v g1 _ st1 le1 r1 h1 => s2 ρ1 S1 σ g1 _ st1 (postG_bind h1 fun ds ρ2 S2 vs g2 _ st2 le2 r2 h2 =>
    h2 (v :: vs) g2 st2 (GLe.refl _ _) (Rs_cons.mpr ⟨v, vs, rfl, R_mono le2.le _ _ r1, r2⟩)))⟩
theorem pe_callK0 {X : Cx} {CX : CXT} {f : Addr} {fd : FuncData} {sp : Sp} {E : XK} {tk : TA} {g : List Value → List Value → List Value} {gV : List V → List V → List V} (F : FnOk X.prog X.w X.K X.mg X.base CX k f fd ps sp) (hr : Room k X.A) (hg : Gl X x) (hm : X.mg x = some (.ref f)) (hk : PySem.W.keepIn X.K (.ref f) = true) (hb : KBinds X.K fd ps ks g gV) (hx : Passes CX X E)
    (hkw : PK X kws tk) (hall : (backToKw pos (keywordEach kws X.env)).all (·.1.isSome) = true) (hks : (backToKw pos (keywordEach kws X.env)).filterMap (·.1) = ks)
    (hdb : (x == ("__debug__" : Str)) = false) (hpl : ((backTo pos (starEach [] X.env)).any (·.1) || (backToKw pos (keywordEach kws X.env)).any (·.1.isNone)) = false) : PE X (.Call (.Name x p) [] kws pos) (tCallK sp gV E tNil tk) := by
  refine ⟨fun pins s σ H Q I h => wpAny_Call_Name_kw (ld_glob I hg hm ?_ hdb)⟩
  refine PySem.W.callWith_KW0 (h₀ := X.base) I.ok.mod.kin hk hall (thn (hkw.run pos pins s σ H _ I h) fun ws s2 ⟨zs, H2, I2, rz, q2⟩ => ⟨I2.kIn, ?_⟩) hpl
  rw [hks]
  exact run_fnk (us := []) F hr hb hx I2 .nil rz q2
/-- how a def takes keywords -/
structure KB (prog : Program) (w : World) (K : PySem.W.Frag) (mg : Str → Option Value) (base : Heap) (x : Str) (k : Nat) (ps ks : List Str) (n : Nat) (ord : List Nat) (m : MF) : Prop where
  ex : ∃ (f : Addr) (fd : FuncData), mg x = some (.ref f) ∧ PySem.W.keepIn K (.ref f) = true ∧ KBinds K fd ps ks (fun us ws => if us.length = n ∧ ws.length = ks.length then permL ord (us ++ ws) else []) (fun us ws => if us.length = n ∧ ws.length = ks.length then permL ord (us ++ ws) else []) ∧ FnOk prog w K mg base CX0 k f fd ps (sp0 K m)
theorem kb_mk {prog : Program} {w : World} {K : PySem.W.Frag} {mg : Str → Option Value} {base : Heap} {x qual : Str} {st : Stmt} {f : Addr} {fd : FuncData} {k n : Nat} {ps ks : List Str} {ord : List Nat} {m : MF} (D : Def0 prog w K mg base x k ps m) (F : Fun K x qual st f fd) (hm : mg x = some (.ref f)) (h0 : ps ≠ [])
    (hb : ∀ (kV doc pm : Value) (an : Option Addr) (cdv ct : Value) (us ws : List Value), us.length = n → ws.length = ks.length → bindArgs (PySem.W.fnOf x qual (defArgs st) (defBody st) (defScope st) .none kV doc pm an cdv ct) ⟨us, ks.zip ws⟩ = pure (ps.zip (permL ord (us ++ ws)))) : KB prog w K mg base x k ps ks n ord m := by
  obtain ⟨f', fd', h1, h2, h3, h4, oc', od', osl', h5⟩ := D.ex
  obtain ⟨oc, od, kV, doc, pm, an, cdv, ct, osl, rfl, lk, hcd⟩ := F.ex
  rw [hm] at h1
  cases h1
  rw [lk] at h5
  cases h5
  refine ⟨f, _, hm, h2, ⟨fun s us ws _ hl => ?_, fun {vs us zs ws} r rz => ?_⟩, h4⟩
  · by_cases c : us.length = n ∧ ws.length = ks.length
    · rw [if_pos c]
      exact .of_eq (hb kV doc pm an cdv ct us ws c.1 c.2)
    · rw [if_neg c] at hl
      exact absurd (List.length_eq_zero_iff.mp hl.symm) h0
  · have e1 := r.length
    have e2 := rz.length
    by_cases c : us.length = n ∧ ws.length = ks.length
    · rw [if_pos c, if_pos (by rw [e1, e2]; exact c)]
      exact perm_vals ord (r.append rz)
    · rw [if_neg c, if_neg (by rw [e1, e2]; exact c)]
      exact .nil
def mCallK (f : MF) (n j : Nat) (ord : List Nat) (m mk : M (List D)) : M RV := m.bind fun ds => mk.bind fun es => fun ρ S => if ds.length = n ∧ es.length = j then (match f (permL ord (ds ++ es)) S with
  | .ok r S' => .ok r ρ S'
  | _ => .bad) else .bad
theorem callK_core {m mk : M (List D)} {t tk : TA} {E : XK} {n j : Nat} {ord : List Nat} (s1 : ∀ ρ S σ g Q, Stt C ρ S σ g → PostG C g σ (fun _ g d v => Rs C.K g.F g.A d v) (m ρ S) Q → t σ g.H Q) (s2 : ∀ ρ S σ g Q, Stt C ρ S σ g → PostG C g σ (fun _ g d v => Rs C.K g.F g.A d v) (mk ρ S) Q → tk σ g.H Q) :
    ∀ ρ S σ g Q, Stt C ρ S σ g → PostG C g σ (RVR C) (mCallK f n j ord m mk ρ S) Q → tCallK (sp0 C.K f) (fun us ws => if us.length = n ∧ ws.length = j then permL ord (us ++ ws) else []) E t tk σ g.H Q := fun ρ S σ g Q st h =>
  s1 ρ S σ g _ st (postG_bind h fun ds ρ1 S1 vs g1 _ st1 le1 r1 h1 => s2 ρ1 S1 σ g1 _ st1 (postG_bind h1 fun es ρ2 S2 us g2 _ st2 le2 r2 h2 => by
    by_cases c : ds.length = n ∧ es.length = j
    · rw [if_pos c] at h2
      dsimp only
      rw [if_pos (by rw [← Rs_len r1, ← Rs_len r2]; exact c)]
      refine ⟨g2.F, g2.A, permL ord (ds ++ es), S2, st2.wd, perm_rs ord (Rs_append (Rs_mono le2.le _ _ r1) r2), ?_⟩
      cases e : f (permL ord (ds ++ es)) S2 with
      | ok r S' =>
        rw [e] at h2
        exact fun v F' A' H' W G rr => h2 v ⟨F', A', H', g2.P⟩ (st2.step G W) (GLe.go G) (ret_rvr st2 G rr)
      | exc y S' => rw [e] at h2; exact h2.elim
      | bad => rw [e] at h2; exact h2.elim
    · rw [if_neg c] at h2; exact h2.elim))
theorem do_callK0 {mk : M (List D)} {ord : List Nat} (F : KB C.prog C.w C.K C.mg C.base x k ps ks 0 ord f) (hk : k ≤ C.k := by first | exact Nat.le_of_ble_eq_true rfl | exact Nat.le_refl _) (hg : C.sc.names.lookup x = some .globalImplicit := by rfl) (hw : DKW C kws mk) (hdb : (x == ("__debug__" : Str)) = false := by decide +kernel)
    (hall : ∀ X : Cx, (backToKw pos (keywordEach kws X.env)).all (·.1.isSome) = true := by intros; rfl) (hks : ∀ X : Cx, (backToKw pos (keywordEach kws X.env)).filterMap (·.1) = ks := by intros; rfl) (hpl : ∀ X : Cx, ((backTo pos (starEach [] X.env)).any (·.1) || (backToKw pos (keywordEach kws X.env)).any (·.1.isNone)) = false := by intros; rfl) :
    DO C (.Call (.Name x p) [] kws pos) (mCallK f 0 ks.length ord mNil mk) := by
  obtain ⟨fa, fd, h1, h2, h3, h4⟩ := F.ex
  obtain ⟨t, ht, hs⟩ := hw
  refine ⟨tCallK (sp0 C.K f) _ E0 tNil t, fun X L => ?_, callK_core (t := tNil) (fun ρ S σ g Q st h => h [] g st (GLe.refl _ _) (Rs_nil.mpr rfl)) hs⟩
  refine pe_callK0 (CX := CX0) (k := k) (f := fa) (fd := fd) (ps := ps) (ks := ks) ?_ (L.room.mono hk) (show X.env.scope.names.lookup x = some .globalImplicit by rw [L.sc]; exact hg) (by rw [L.mg]; exact h1) (by rw [L.K]; exact h2) (by rw [L.K]; exact h3) pass0 (ht X L) (hall X) (hks X) hdb (hpl X)
  rw [L.prog, L.w, L.K, L.mg, L.base]; exact h4
theorem do_callK {m mk : M (List D)} {n : Nat} {ord : List Nat} (F : KB C.prog C.w C.K C.mg C.base x k ps ks n ord f) (hk : k ≤ C.k := by first | exact Nat.le_of_ble_eq_true rfl | exact Nat.le_refl _) (hg : C.sc.names.lookup x = some .globalImplicit := by rfl) (ha : DA C (e :: es) m) (hw : DKW C kws mk) (hdb : (x == ("__debug__" : Str)) = false := by decide +kernel)
    (hall : ∀ X : Cx, (backToKw pos (keywordEach kws X.env)).all (·.1.isSome) = true := by intros; rfl) (hks : ∀ X : Cx, (backToKw pos (keywordEach kws X.env)).filterMap (·.1) = ks := by intros; rfl) (he : ∀ X : Cx, starEach (e :: es) X.env = (false, eval e X.env) :: starEach es X.env := by intros; rfl)
    (hpl : ∀ X : Cx, ((backTo pos (starEach (e :: es) X.env)).any (·.1) || (backToKw pos (keywordEach kws X.env)).any (·.1.isNone)) = false := by intros; rfl) :
    DO C (.Call (.Name x p) (e :: es) kws pos) (mCallK f n ks.length ord m mk) := by
  obtain ⟨fa, fd, h1, h2, h3, h4⟩ := F.ex
  obtain ⟨t0, ht0, hs0⟩ := ha
  obtain ⟨t, ht, hs⟩ := hw
  refine ⟨tCallK (sp0 C.K f) _ E0 t0 t, fun X L => ?_, callK_core hs0 hs⟩
  refine pe_callK (CX := CX0) (k := k) (f := fa) (fd := fd) (ps := ps) (ks := ks) ?_ (L.room.mono hk) (show X.env.scope.names.lookup x = some .globalImplicit by rw [L.sc]; exact hg) (by rw [L.mg]; exact h1) (by rw [L.K]; exact h2) (by rw [L.K]; exact h3) pass0 (ht0 X L) (ht X L) (hall X) (hks X) hdb (he X) (hpl X)
  rw [L.prog, L.w, L.K, L.mg, L.base]; exact h4
end
end Thr
namespace Thr
open PySem PySem.Spec PyProof.Rows L2 RZ

/-! ### the end of a law -/
def Bits (ns : List Int) : Prop := ∀ z ∈ ns, Builtin.Int.intBits z ≤ 1048576
theorem sp0_law {K : PySem.W.Frag} {m : MF} {H : Hp} {a : Addr} {ns : List Int} {S' : Store} (hS : SqL K H a (ns.map V.int)) (hm : m [.rol (ns.map D.int)] [] = .ok (.val (.bl true)) S') : sp0 K m [.ref a] H (fun v _ => v = .bl true) fun _ _ _ => False := by
  refine ⟨H, [], [.rol (ns.map D.int)], [], ⟨Ex.refl H, rfl, List.nodup_nil, fun b hb => by simp at hb, fun n c b hc => by simp at hc⟩, Rs_one (R_rol.mpr ⟨a, ns.map V.int, rfl, hS, ?_⟩), ?_⟩
  · clear hS hm
    induction ns with
    | nil => exact Rs_nil.mpr rfl
    | cons n ns ih => exact Rs_cons.mpr ⟨_, _, rfl, R_int.mpr rfl, ih⟩
  · rw [hm]
    intro v F' A' H' W G r
    have r' : R K F' A' (.bl true) v := r
    exact R_bl.mp r'
theorem law_walk {l : PySem.W.OpenLaw} {k : Nat} {q : Program} {loose : List Str} {XP : (Str → Option Value) → Heap → Prop} {YP : World → Heap → Prop} {d : DefRec} {K : Params → PySem.W.Frag} {m : MF} {x : Str}
    (hn : l.most = some 63) (hdf : d.params.defaults = []) (hr : Room k callerA) (hY : ∀ (w : World) (h : Heap), YP w h → (K w.params).In h)
    (F : ∀ (w : World) (mg : Str → Option Value) (fa : Addr) (h : Heap), (K w.params).In h → h.Ns mainGlobals mg → mg d.name = some (.ref fa) →
      ∃ fd : FuncData, (∀ (s : Shared) (u : Value), BindsTo s fd ⟨[u], []⟩ [(x, u)]) ∧ ∀ base : Heap, (K w.params).In base → base.Ns mainGlobals mg → FnOk l.prog w (K w.params) mg base CX0 k fa fd [x] (sp0 (K w.params) m))
    (pure : ∀ ns : List Int, ns.length ≤ 63 → Bits ns → ∃ S', m [.rol (ns.map D.int)] [] = .ok (.val (.bl true)) S') :
    PySem.W.WalkO q loose XP YP l.row.toRowW d [] (fun f vs => PySem.call f vs) :=
  L2.walk_ofB (n := 63) (k := k) (x := x) (CX := fun _ => CX0) (sp := fun w => sp0 (K w.params) m) hn (by decide) hdf hr hY F (fun w H a ns hl hb _ hS => by
    obtain ⟨S', e⟩ := pure ns hl hb
    exact sp0_law hS e) fun _ _ _ _ _ z => z
theorem law_at {prog : Program} {w : World} {K : PySem.W.Frag} {mg : Str → Option Value} {x qual : Str} {st : Stmt} {f fa : Addr} {fd : FuncData} {k : Nat} {y : Str} {m : MF} (F : Fun K x qual st f fd) (hm : mg x = some (.ref f)) (h : mg x = some (.ref fa))
    (hb : ∀ (kV doc pm : Value) (an : Option Addr) (cdv ct : Value) (u : Value), bindArgs (PySem.W.fnOf x qual (defArgs st) (defBody st) (defScope st) .none kV doc pm an cdv ct) ⟨[u], []⟩ = pure [(y, u)]) (D : ∀ base, Def0 prog w K mg base x k [y] m) :
    ∃ fd : FuncData, (∀ (s : Shared) (u : Value), BindsTo s fd ⟨[u], []⟩ [(y, u)]) ∧ ∀ base : Heap, K.In base → base.Ns mainGlobals mg → FnOk prog w K mg base CX0 k fa fd [y] (sp0 K m) := by
  rw [h] at hm
  cases hm
  obtain ⟨oc, od, kV, doc, pm, an, cdv, ct, osl, rfl, lk, hcd⟩ := F.ex
  refine ⟨_, fun s u => .of_eq (hb kV doc pm an cdv ct u), fun base _ _ => ?_⟩
  obtain ⟨f', fd', h1, _, _, h4, _, _, _, h5⟩ := (D base).ex
  rw [h] at h1
  cases h1
  rw [lk] at h5
  cases h5
  exact h4
end Thr
namespace Thr
open PySem PySem.Spec PyProof.Rows L2 RZ

/-! ### one rule or another -/
def M.alt {α : Type} (m n : M α) : M α := fun ρ S => match m ρ S with
  | .bad => n ρ S
  | o => o
theorem alt_post {α β : Type} {C : Ctx} {g : Gs} {σ : L2.St} {Rel : Gs → Gs → α → β → Prop} {m n : M α} {ρ : Env} {S : Store} {Q : β → Hp → Prop} (h : PostG C g σ Rel (M.alt m n ρ S) Q) : PostG C g σ Rel (m ρ S) Q ∨ PostG C g σ Rel (n ρ S) Q := by
  unfold M.alt at h
  cases e : m ρ S with
  | ok a ρ1 S1 => rw [e] at h; exact .inl h
  | exc x ρ1 S1 => rw [e] at h; exact .inl h
  | bad => rw [e] at h; exact .inr h
theorem pe_alt {X : Cx} {e : Expr} {t u : TE} (h : PE X e t) (h' : PE X e u) : PE X e (fun σ H Q => t σ H Q ∨ u σ H Q) :=
  ⟨fun pins s σ H Q I q => q.elim (h.run pins s σ H Q I) (h'.run pins s σ H Q I)⟩
theorem pi_alt {X : Cx} {tg e : Expr} {t u : TI} (h : PI X tg e t) (h' : PI X tg e u) : PI X tg e (fun σ H Q => t σ H Q ∨ u σ H Q) :=
  ⟨fun pins s σ H Q I q => q.elim (h.run pins s σ H Q I) (h'.run pins s σ H Q I)⟩
section
variable {C : Ctx} {e o a b : Expr} {tg : Expr} {pos p1 p2 apos : Pos}
theorem do_alt {m n : M RV} (h : DO C e m) (h' : DO C e n) : DO C e (M.alt m n) := by
  obtain ⟨t, ht, hs⟩ := h
  obtain ⟨u, hu, hs'⟩ := h'
  exact ⟨_, fun X L => pe_alt (ht X L) (hu X L), fun ρ S σ g Q st q => (alt_post q).elim (fun q => .inl (hs ρ S σ g Q st q)) fun q => .inr (hs' ρ S σ g Q st q)⟩
theorem de_alt {m n : M D} (h : DE C e m) (h' : DE C e n) : DE C e (M.alt m n) := by
  obtain ⟨t, ht, hs⟩ := h
  obtain ⟨u, hu, hs'⟩ := h'
  exact ⟨_, fun X L => pe_alt (ht X L) (hu X L), fun ρ S σ g Q st q => (alt_post q).elim (fun q => .inl (hs ρ S σ g Q st q)) fun q => .inr (hs' ρ S σ g Q st q)⟩
theorem di_alt {m n : M (List D)} (h : DI C tg e m) (h' : DI C tg e n) : DI C tg e (M.alt m n) := by
  obtain ⟨t, ht, hs⟩ := h
  obtain ⟨u, hu, hs'⟩ := h'
  exact ⟨_, fun X L => pi_alt (ht X L) (hu X L), fun ρ S σ g Q st q => (alt_post q).elim (fun q => .inl (hs ρ S σ g Q st q)) fun q => .inr (hs' ρ S σ g Q st q)⟩
/-- a list, a tuple, a text -/
def mItA (m : M D) : M (List D) := m.bind fun d => M.opt (lstOr d)
theorem di_any {m : M D} (h : DE C e m) : DI C tg e (mItA m) := by
  obtain ⟨t, ht, hs⟩ := di_alt (di_list (tg := tg) h) (di_alt (di_tup (tg := tg) h) (di_str (tg := tg) h))
  refine ⟨t, ht, fun ρ S σ g Rk st q => hs ρ S σ g Rk st ?_⟩
  have e1 : mItA m ρ S = M.alt (mItL m) (M.alt (mItT m) (mItS m)) ρ S ∨ mItA m ρ S = .bad := by
    unfold mItA mItL mItT mItS M.alt M.bind
    cases q : m ρ S with
    | ok d ρ1 S1 => cases d <;> first | exact .inl rfl | exact .inr rfl
    | exc x ρ1 S1 => exact .inl rfl
    | bad => exact .inl rfl
  rcases e1 with z | z
  · rw [← z]; exact q
  · rw [z] at q; exact q.elim

/-! ### dicts: keys -/
def eqK : D → D → Bool
  | .int i, .int j => i == j
  | .str s, .str t => s == t
  | _, _ => false
theorem eqK_iff {x y : D} {a b : Key} (hx : keyD x = some a) (hy : keyD y = some b) : eqK x y = true ↔ a = b := by
  cases x <;> cases hx <;> cases y <;> cases hy
  · simp [eqK]
  · simp [eqK]
  · simp [eqK]
  · simp only [eqK, beq_iff_eq]
    exact ⟨fun z => by rw [z], fun z => mkS_inj (Sum.inr.inj z)⟩
theorem key_kV {K : PySem.W.Frag} {F : Hp} {A : List Addr} {x : D} {k : Key} {v : V} (hx : keyD x = some k) (r : R K F A x v) : v = kV k := by
  cases x <;> cases hx
  · exact R_int.mp r
  · exact R_str.mp r
def getK : List D → List D → D → Option D
  | k :: ks, d :: ds, x => if eqK k x = true then some d else getK ks ds x
  | _, _, _ => none
theorem getK_rel {K : PySem.W.Frag} {F : Hp} {A : List Addr} {x : D} {k : Key} (hx : keyD x = some k) : ∀ {ks ds : List D} {kvs : List (Key × V)}, ks.map keyD = kvs.map (fun p => some p.1) → Rs K F A ds (kvs.map (·.2)) →
    (∀ d, getK ks ds x = some d → ∃ v, valV kvs k = some v ∧ R K F A d v) ∧ (getK ks ds x = none → valV kvs k = none)
  | [], ds, [], _, _ => ⟨fun d h => by simp [getK] at h, fun _ => rfl⟩
  | [], ds, _ :: _, h, _ => by simp at h
  | _ :: _, _, [], h, _ => by simp at h
  | q :: ks, ds, (k1, v1) :: kvs, h, r => by
    obtain ⟨v, vr, e1, r1, r2⟩ : ∃ d ds', ds = d :: ds' ∧ R K F A d v1 ∧ Rs K F A ds' (kvs.map (·.2)) := by
      cases ds with
      | nil => rw [Rs_nil] at r; cases r
      | cons d ds =>
        obtain ⟨v, w, e, h1, h2⟩ := Rs_cons.mp r
        cases e
        exact ⟨d, ds, rfl, h1, h2⟩
    subst e1
    simp only [List.map_cons, List.cons.injEq] at h
    obtain ⟨h1, h2⟩ := h
    have ih := getK_rel hx h2 r2
    have hq := eqK_iff h1 hx
    unfold getK
    by_cases z : eqK q x = true
    · rw [if_pos z]
      have zk : k1 = k := hq.mp z
      exact ⟨fun d hd => by cases hd; exact ⟨v1, valV_pos zk, r1⟩, fun hd => by cases hd⟩
    · rw [if_neg z]
      have zk : ¬ k1 = k := fun w => z (hq.mpr w)
      have e2 : valV ((k1, v1) :: kvs) k = valV kvs k := by unfold valV; rw [List.find?_cons_of_neg (by simpa using zk)]
      rw [e2]
      exact ih
def repK (x d : D) : List D → List D → List D
  | k :: ks, y :: ys => (if eqK k x = true then d else y) :: repK x d ks ys
  | _, _ => []
def hasK (ks : List D) (x : D) : Bool := ks.any fun k => eqK k x
def putKs (ks ds : List D) (x d : D) : List D × List D := if hasK ks x = true then (ks, repK x d ks ds) else (ks ++ [x], ds ++ [d])
theorem hasK_iff {x : D} {k : Key} (hx : keyD x = some k) : ∀ {ks : List D} {kvs : List (Key × V)}, ks.map keyD = kvs.map (fun p => some p.1) → hasK ks x = kvs.any fun kv => decide (kv.1 = k)
  | [], [], _ => rfl
  | [], _ :: _, h => by simp at h
  | _ :: _, [], h => by simp at h
  | q :: ks, (k1, v1) :: kvs, h => by
    simp only [List.map_cons, List.cons.injEq] at h
    have ih := hasK_iff hx h.2
    have hq := eqK_iff h.1 hx
    unfold hasK at ih ⊢
    rw [List.any_cons, List.any_cons, ih]
    congr 1
    by_cases z : k1 = k
    · rw [hq.mpr z]; simp [z]
    · have : eqK q x = false := by
        cases w : eqK q x with
        | true => exact absurd (hq.mp w) z
        | false => rfl
      rw [this]; simp [z]
theorem repK_rel {K : PySem.W.Frag} {F : Hp} {A : List Addr} {x d : D} {k : Key} {v : V} (hx : keyD x = some k) (hd : R K F A d v) : ∀ {ks ds : List D} {kvs : List (Key × V)}, ks.map keyD = kvs.map (fun p => some p.1) → Rs K F A ds (kvs.map (·.2)) →
    Rs K F A (repK x d ks ds) ((kvs.map fun kv => if kv.1 = k then (kv.1, v) else kv).map (·.2)) ∧ (kvs.map fun kv => if kv.1 = k then (kv.1, v) else kv).map (fun p => some p.1) = kvs.map (fun p => some p.1)
  | [], ds, [], _, _ => ⟨by simp [repK, Rs_nil], rfl⟩
  | [], ds, _ :: _, h, _ => by simp at h
  | _ :: _, _, [], h, _ => by simp at h
  | q :: ks, [], (k1, v1) :: kvs, h, r => by rw [Rs_nil] at r; cases r
  | q :: ks, y :: ys, (k1, v1) :: kvs, h, r => by
    simp only [List.map_cons, List.cons.injEq] at h
    obtain ⟨w, ws, e, h1, h2⟩ := Rs_cons.mp r
    cases e
    obtain ⟨a1, a2⟩ := repK_rel hx hd h.2 h2
    have hq := eqK_iff h.1 hx
    unfold repK
    simp only [List.map_cons]
    refine ⟨?_, ?_⟩
    · by_cases z : k1 = k
      · rw [if_pos (hq.mpr z), if_pos z]; exact Rs_cons.mpr ⟨v, _, rfl, hd, a1⟩
      · rw [if_neg (fun w => z (hq.mp w)), if_neg z]; exact Rs_cons.mpr ⟨v1, _, rfl, h1, a1⟩
    · rw [a2]
      by_cases z : k1 = k
      · rw [if_pos z]
      · rw [if_neg z]
theorem putKs_rel {K : PySem.W.Frag} {F : Hp} {A : List Addr} {x d : D} {k : Key} {v : V} (hx : keyD x = some k) (hd : R K F A d v) {ks ds : List D} {kvs : List (Key × V)} (h : ks.map keyD = kvs.map (fun p => some p.1)) (r : Rs K F A ds (kvs.map (·.2))) :
    (putKs ks ds x d).1.map keyD = (putK kvs k v).map (fun p => some p.1) ∧ Rs K F A (putKs ks ds x d).2 ((putK kvs k v).map (·.2)) := by
  have hh := hasK_iff hx h
  unfold putKs putK
  rw [← hh]
  by_cases z : hasK ks x = true
  · rw [if_pos z, if_pos z]
    obtain ⟨a1, a2⟩ := repK_rel hx hd h r
    exact ⟨by rw [a2]; exact h, a1⟩
  · rw [if_neg z, if_neg z]
    refine ⟨by simp [h, hx], ?_⟩
    rw [List.map_append]
    exact Rs_append r (Rs_one hd)

/-! ### dicts: reading -/
def dGet : D → D → Option D
  | .dic ks ds, x => if (keyD x).isSome = true then getK ks ds x else none
  | _, _ => none
def rDGet : R2 := fun x y H Q => ∃ a v, x = .ref a ∧ DGet H a y (some v) ∧ Q v H
theorem vs_dget : VS C rDGet dGet := by
  intro ρ S σ g x y v u d Q st rx ry e k
  cases x with
  | dic ks ds =>
    unfold dGet at e
    dsimp only at e
    by_cases hk : (keyD y).isSome = true
    · rw [if_pos hk] at e
      obtain ⟨key, hkey⟩ := Option.isSome_iff_exists.mp hk
      obtain ⟨a, kvs, rfl, h1, h2, h3⟩ := rx
      have hR : R C.K g.F g.A y u := by cases y <;> first | exact ry | cases hkey
      obtain ⟨w, e1, r1⟩ := (getK_rel hkey h2 h3).1 d e
      have ev := key_kV hkey hR
      subst ev
      refine ⟨a, w, rfl, ?_, k w r1⟩
      rw [← e1]
      exact DGet.k h1
    · rw [if_neg hk] at e; cases e
  | _ => cases e
theorem de_dget {ma mb : M Pk} (ha : DK C a ma) (hb : DK C b mb) (hs : NoSl b := by intros _ _; rfl) : DE C (.Subscript a b pos) (mOpV dGet ma mb) := by
  obtain ⟨ta, ha, sa⟩ := ha
  obtain ⟨tb, hb, sb⟩ := hb
  exact ⟨tDGet ta tb, fun X L => pe_dget (hu_of L.room) (ha X L) (hb X L) hs, opV_core vs_dget sa sb⟩
/-- a sequence's item, a dict's -/
theorem de_sub {ma mb : M Pk} (ha : DK C a ma) (hb : DK C b mb) (hs : PlainIx b := by intros _ _; rfl) (hs2 : NoSl b := by intros _ _; rfl) : DE C (.Subscript a b pos) (M.alt (mOpV dIx ma mb) (mOpV dGet ma mb)) :=
  de_alt (de_ix ha hb hs) (de_dget ha hb hs2)
def dGetOr : D → D → D → Option D
  | .dic ks ds, x, z => if (keyD x).isSome = true then some ((getK ks ds x).getD z) else none
  | _, _, _ => none
def isDic : D → Bool
  | .dic _ _ => true
  | _ => false
def mGet2 (mo : M Pk) (mk mx : M D) : M D := mo.bind fun p => M.look p fun x => if isDic x = true then mk.bind fun k => mx.bind fun z => M.look p fun x => M.opt (dGetOr x k z) else fun _ _ => .bad
theorem dic_rn {g : Gs} {x : D} {v : V} (h : RN C.K g x v) (e : isDic x = true) : ∃ ks ds a kvs, x = .dic ks ds ∧ v = .ref a ∧ g.H a = some (.dK kvs) ∧ ks.map keyD = kvs.map (fun p => some p.1) ∧ Rs C.K g.F g.A ds (kvs.map (·.2)) := by
  cases x with
  | dic ks ds => obtain ⟨a, kvs, h1, h2, h3, h4⟩ := h; exact ⟨ks, ds, a, kvs, rfl, h1, h2, h3, h4⟩
  | _ => cases e
theorem de_get2 {k z : Expr} {name : Str} {mo : M Pk} {mk mx : M D} (hn : name = "get" := by rfl) (ho : DK C o mo) (hk : DE C k mk) (hx : DE C z mx) (hm : ∀ X : Cx, M2 X o name apos k z pos := by intros; exact ⟨rfl, rfl, rfl, rfl⟩) : DE C (.Call (.Attribute o name apos) [k, z] [] pos) (mGet2 mo mk mx) := by
  subst hn
  obtain ⟨to, ho, so⟩ := ho
  obtain ⟨tk, hk, sk⟩ := hk
  obtain ⟨tx, hx, sx⟩ := hx
  refine ⟨tDGet2 to tk tx, fun X L => pe_dget2 (hu_of L.room) (ho X L) (hk X L) (hx X L) (hm X), fun ρ S σ g Q st h => so ρ S σ g _ st (postG_bind h fun p ρ1 S1 v g1 _ st1 le1 r1 h1 => ?_)⟩
  obtain ⟨x, ex, h2⟩ := look_post h1
  by_cases hd : isDic x = true
  · rw [if_pos hd] at h2
    obtain ⟨ks, ds, a, kvs, rfl, rfl, q1, q2, q3⟩ := dic_rn (pk_get st1 r1 ex) hd
    refine ⟨a, rfl, .inl ⟨kvs, .inl q1⟩, sk ρ1 S1 σ g1 _ st1 (postG_bind h2 fun kd ρ2 S2 u g2 _ st2 le2 r2 h3 => sx ρ2 S2 σ g2 _ st2 (postG_bind h3 fun zd ρ3 S3 w g3 _ st3 le3 r3 h4 => ?_))⟩
    obtain ⟨x', ex', h5⟩ := look_post h4
    obtain ⟨d, ed, h6⟩ := opt_post h5
    have rn' := pk_get st3 (pk_mono (le2.trans le3) r1) ex'
    cases x' with
    | dic ks' ds' =>
      unfold dGetOr at ed
      dsimp only at ed
      by_cases hkk : (keyD kd).isSome = true
      · rw [if_pos hkk] at ed
        cases ed
        obtain ⟨key, hkey⟩ := Option.isSome_iff_exists.mp hkk
        obtain ⟨a', kvs', ea, q4, q5, q6⟩ := rn'
        cases ea
        have ev := key_kV hkey (R_mono le3.le _ _ r2)
        subst ev
        have gr := getK_rel hkey q5 q6
        refine ⟨valV kvs' key, DGet.k q4, ?_⟩
        cases eg : getK ks' ds' kd with
        | some d =>
          obtain ⟨w', e1, rr⟩ := gr.1 d eg
          rw [e1]
          rw [eg] at h6
          exact h6 w' g3 st3 (GLe.refl _ _) rr
        | none =>
          rw [gr.2 eg]
          rw [eg] at h6
          exact h6 w g3 st3 (GLe.refl _ _) r3
      · rw [if_neg hkk] at ed; cases ed
    | _ => cases ed
  · rw [if_neg hd] at h2; exact h2.elim
/-- k in d, k not in d -/
def dInK (neg : Bool) : D → D → Option Bool
  | x, .dic ks _ => if (keyD x).isSome = true then some (if neg then !hasK ks x else hasK ks x) else none
  | _, _ => none
theorem get_has {x : D} : ∀ {ks ds : List D}, ks.length = ds.length → (getK ks ds x).isSome = hasK ks x
  | [], [], _ => rfl
  | k :: ks, d :: ds, h => by
    have ih := get_has (x := x) (ks := ks) (ds := ds) (by simpa using h)
    unfold getK hasK
    rw [List.any_cons]
    by_cases z : eqK k x = true
    · rw [if_pos z, z]; rfl
    · rw [if_neg z, ih]
      have : eqK k x = false := by cases w : eqK k x <;> simp_all
      rw [this, Bool.false_or]; rfl
  | [], _ :: _, h => by simp at h
  | _ :: _, [], h => by simp at h
theorem inK_core (neg : Bool) {ma mb : M Pk} {ta tb : TE}
    (sa : ∀ ρ S σ g Q, Stt C ρ S σ g → PostG C g σ (fun _ => PkR C.K σ) (ma ρ S) Q → ta σ g.H Q)
    (sb : ∀ ρ S σ g Q, Stt C ρ S σ g → PostG C g σ (fun _ => PkR C.K σ) (mb ρ S) Q → tb σ g.H Q) :
    ∀ ρ S σ g Q, Stt C ρ S σ g → PostG C g σ (fun _ _ b v => v = b) (mCmp (dInK neg) ma mb ρ S) Q → ta σ g.H fun y H1 => tb σ H1 fun x H2 => ∃ a o, x = .ref a ∧ DGet H2 a y o ∧ ∃ d, V.bl (if neg then !o.isSome else o.isSome) = .bl d ∧ Q d H2 := fun ρ S σ g Q st h =>
  sa ρ S σ g _ st (postG_bind h fun p ρ1 S1 v g1 _ st1 le1 r1 h1 => sb ρ1 S1 σ g1 _ st1 (postG_bind h1 fun q ρ2 S2 u g2 _ st2 le2 r2 h2 => by
    obtain ⟨x, ex, h3⟩ := look_post h2
    obtain ⟨y, ey, h4⟩ := look_post h3
    obtain ⟨b, e, h5⟩ := opt_post h4
    have rx := pk_get st2 (pk_mono le2 r1) ex
    have ry := pk_get st2 r2 ey
    cases y with
    | dic ks ds =>
      unfold dInK at e
      dsimp only at e
      by_cases hk : (keyD x).isSome = true
      · rw [if_pos hk] at e
        cases e
        obtain ⟨key, hkey⟩ := Option.isSome_iff_exists.mp hk
        obtain ⟨a, kvs, rfl, q1, q2, q3⟩ := ry
        have hR : R C.K g2.F g2.A x v := by cases x <;> first | exact rx | cases hkey
        have ev := key_kV hkey hR
        subst ev
        refine ⟨a, _, rfl, DGet.k q1, _, rfl, ?_⟩
        have hl : ks.length = ds.length := by
          have z1 := congrArg List.length q2
          have z2 := Rs_len q3
          simp at z1 z2; omega
        have gr := getK_rel hkey q2 q3
        have eo : (valV kvs key).isSome = hasK ks x := by
          rw [← get_has (x := x) hl]
          cases eg : getK ks ds x with
          | some d => obtain ⟨w', e1, _⟩ := gr.1 d eg; rw [e1]; rfl
          | none => rw [gr.2 eg]; rfl
        rw [eo]
        exact h5 _ g2 st2 (GLe.refl _ _) rfl
      · rw [if_neg hk] at e; cases e
    | _ => cases e))
theorem dt_din {ma mb : M Pk} (ha : DK C a ma) (hb : DK C b mb) (hm : behindInMarks .In b = false := by with_unfolding_all rfl) : DT C (.Compare a [.In] [b] pos) (mCmp (dInK false) ma mb) := by
  obtain ⟨ta, ha, sa⟩ := ha
  obtain ⟨tb, hb, sb⟩ := hb
  refine ⟨tB (tDIn ta tb), fun X L => pt_cmp (pc_din (hu_of L.room) (ha X L) (hb X L)) hm, fun ρ S σ g Q st h => inK_core false sa sb ρ S σ g Q st h⟩
theorem dt_dnotin {ma mb : M Pk} (ha : DK C a ma) (hb : DK C b mb) (hm : behindInMarks .NotIn b = false := by with_unfolding_all rfl) : DT C (.Compare a [.NotIn] [b] pos) (mCmp (dInK true) ma mb) := by
  obtain ⟨ta, ha, sa⟩ := ha
  obtain ⟨tb, hb, sb⟩ := hb
  refine ⟨tB (tDNotIn ta tb), fun X L => pt_cmp (pc_dnotin (hu_of L.room) (ha X L) (hb X L)) hm, fun ρ S σ g Q st h => inK_core true sa sb ρ S σ g Q st h⟩

/-! ### dicts: made, written -/
def mDNew : M RV := M.ret (.owd [] [])
theorem do_dnew : DO C (.Dict [] [] pos) mDNew := ⟨tDNewK, fun X L => pe_dnewK, fun ρ S σ g Q st h p hp => h (.ref p) (g.pv p (.dK [])) (st.priv hp) (Stt.le_pv hp) (owd_new st hp rfl (Rs_nil.mpr rfl))⟩
def chkD (i : Nat) : M Unit := fun ρ S => match ρ[i]? with
  | some (.owd _ _) => .ok () ρ S
  | _ => .bad
def putD (i : Nat) (d k : D) : M Fl := fun ρ S => match ρ[i]? with
  | some (.owd ks ds) => if ((keyD k).isSome && decide (ks.length < 10000000)) = true then .ok .nx (ρ.set i (.owd (putKs ks ds k d).1 (putKs ks ds k d).2)) S else .bad
  | _ => .bad
def sDput (m : M D) (i : Nat) (mk : M D) : M Fl := m.bind fun d => (chkD i).bind fun _ => mk.bind fun k => putD i d k
theorem ds_dput {x : Str} {k e : Expr} {m mk : M D} (i : Nat) (hi : C.N[i]? = some x := by rfl) (hv : Vis C.sc x := by first | exact Or.inl rfl | exact Or.inr (Or.inl rfl) | exact Or.inr (Or.inr rfl)) (hd : (x == ("__debug__" : Str)) = false := by decide +kernel) (hcd : (x == ("__classdict__" : Str)) = false := by decide +kernel)
    (he : DE C e m) (hk : DE C k mk) (hs : ∀ X : Cx, swapsWith e (some (.Subscript (.Name x p2) k p1)) pos.line X.env = pure false := by intros; rfl) : DS C (.Assign [.Subscript (.Name x p2) k p1] e pos) (sDput m i mk) := by
  obtain ⟨t, ht, s1⟩ := he
  obtain ⟨tk, htk, sk⟩ := hk
  refine ⟨sDPut (tVar i) tk t, fun X L => ps_dput (hu_of L.room) (pe_var (by rw [L.N]; exact hi) (by rw [L.sc]; exact hv) hd hcd) (htk X L) (ht X L) (hs X), fun ρ S σ g Dn st h => ?_⟩
  unfold sDput at h
  refine s1 ρ S σ g _ st ?_
  unfold M.bind at h
  cases e1 : m ρ S with
  | ok d ρ1 S1 =>
    rw [e1] at h
    dsimp only at h
    intro v g1 st1 le1 r1
    unfold chkD at h
    cases e0 : ρ1[i]? with
    | none => rw [e0] at h; exact h.elim
    | some sl0 =>
      rw [e0] at h
      cases sl0 with
      | owd ks0 ds0 =>
        dsimp only at h
        have hσ : ∃ w, σ[i]? = some (some w) := by
          obtain ⟨a, kvs, _, z, _⟩ := st1.at_ i _ e0
          cases q : σ[i]? with
          | none => rw [q] at z; cases z
          | some o => rw [q] at z; exact ⟨_, congrArg some z⟩
        obtain ⟨w, hw⟩ := hσ
        refine ⟨w, hw, sk ρ1 S1 σ g1 _ st1 ?_⟩
        cases e2 : mk ρ1 S1 with
        | ok kd ρ2 S2 =>
          rw [e2] at h
          dsimp only at h
          intro u g2 st2 le2 r2
          unfold putD at h
          cases e3 : ρ2[i]? with
          | none => rw [e3] at h; exact h.elim
          | some sl =>
            rw [e3] at h
            cases sl with
            | owd ks ds =>
              dsimp only at h
              by_cases c : ((keyD kd).isSome && decide (ks.length < 10000000)) = true
              · rw [if_pos c] at h
                rw [Bool.and_eq_true, decide_eq_true_eq] at c
                obtain ⟨key, hkey⟩ := Option.isSome_iff_exists.mp c.1
                have hil : i < ρ2.length := (List.getElem?_eq_some_iff.mp e3).1
                have s0 := st2.at_ i _ e3
                rw [hw] at s0
                obtain ⟨a, kvs, hP, ew, q1, q2, q3⟩ := s0
                cases ew
                have hP' : g2.P i = [a] := hP
                have pr := st2.pr i a (by rw [hP']; simp)
                have ev := key_kV hkey r2
                subst ev
                have rd := R_mono le2.le _ _ r1
                obtain ⟨z1, z2⟩ := putKs_rel hkey rd q2 q3
                have hlen : kvs.length < sizeLine := by
                  have z := congrArg List.length q2
                  simp at z
                  rw [← z]; exact cap_lt c.2
                refine ⟨a, upd g2.H a (.dK (putK kvs key v)), rfl, DPut.k q1 hlen, ?_⟩
                refine h σ (g2.pv a (.dK (putK kvs key v))) (st2.alter q1 pr (by rw [List.length_set]) (fun j hj => ?_) fun j sl hj hs' => ?_) (le1.le.trans le2.le)
                · by_cases zj : j = i
                  · subst zj; rw [hP'] at hj; simp at hj
                  · rw [List.getElem?_set_ne (Ne.symm zj)]
                · have zj : j = i := st2.dis j i a hj (by rw [hP']; simp)
                  subst zj
                  rw [List.getElem?_set_self hil] at hs'
                  cases hs'
                  rw [hw]
                  exact ⟨a, _, hP', rfl, upd_same, z1, z2⟩
              · rw [if_neg c] at h; exact h.elim
            | _ => exact h.elim
        | exc x ρ2 S2 => rw [e2] at h; exact fun cls dd g' st' xr => h σ cls dd g' st' xr
        | bad => rw [e2] at h; exact h.elim
      | _ => exact h.elim
  | exc x ρ1 S1 => rw [e1] at h; exact fun cls dd g' st' xr => h σ cls dd g' st' xr
  | bad => rw [e1] at h; exact h.elim
end
end Thr
namespace Thr
open PySem PySem.Spec PyProof.Rows L2 RZ

/-! ### comprehensions with two for -/
/-- a walk's turns, whatever a turn asks -/
theorem walk_W {J : It} {n : Nat} {G : Hp → Prop} {Y : Nat → Hp → V → Hp → Prop} (w : Walk J n G Y) {H0 : Hp} {End : Hp → Prop} {Step : Nat → V → Hp → (Hp → Prop) → Prop} (Pv : Nat → Hp → Prop) (h0 : Pv 0 H0) (hG : ∀ i H, i ≤ n → Pv i H → G H)
    (hs : ∀ i x H H', i < n → Pv i H → Y i H x H' → Step i x H' (Pv (i + 1))) (hd : ∀ H, Pv n H → End H) :
    ∃ W : Nat → Nat → Hp → Prop, (∃ m, W 0 m H0) ∧ ∀ i m H, W i m H → (J.stop i H ∧ End H) ∨ (J.go i H ∧ ∃ Nx : Hp → Prop, (∀ H', Nx H' → ∃ m', m' < m ∧ W (i + 1) m' H') ∧ ∀ x H', J.yld i H x H' → Step i x H' Nx) := by
  refine ⟨fun i m H => m + i = n ∧ Pv i H, ⟨n, by simp, h0⟩, ?_⟩
  rintro i m H ⟨hm, p⟩
  have q := hG i H (by omega) p
  by_cases hlt : i < n
  · exact .inr ⟨w.goes i H hlt q, Pv (i + 1), fun H' p' => ⟨m - 1, by omega, by omega, p'⟩, fun x H' y => hs i x H H' hlt p (w.yields i H x H' hlt q y)⟩
  · have e : i = n := by omega
    subst e
    exact .inl ⟨w.stops H q, hd H p⟩
section
variable {C : Ctx} {scope : Scope}
/-- the inner loop: what has been gathered, D its list -/
structure Ac (C : Ctx) (g1 : Gs) (Da : Addr) (ρ : Env) (S : Store) (σ : L2.St) (g : Gs) (acc : List D) : Prop where
  st : Stt C ρ S σ g
  le : GLe C g1 g
  fr : Free C g Da
  at_ : ∃ us, g.H Da = some (.lst us) ∧ Rs C.K g.F g.A acc us
theorem Ac.go {g1 : Gs} {Da : Addr} {ρ ρ' : Env} {S S' : Store} {σ σ' : L2.St} {g g' : Gs} {acc : List D} (a : Ac C g1 Da ρ S σ g acc) (st : Stt C ρ' S' σ' g') (le : GLe C g g') : Ac C g1 Da ρ' S' σ' g' acc := by
  obtain ⟨us, h1, h2⟩ := a.at_
  obtain ⟨k1, k2⟩ := le.kp Da _ a.fr h1
  exact ⟨st, a.le.trans le, k2, us, k1, Rs_mono le.le _ _ h2⟩
theorem Ac.add {g1 : Gs} {Da : Addr} {ρ : Env} {S : Store} {σ : L2.St} {g : Gs} {acc : List D} (a : Ac C g1 Da ρ S σ g acc) (h0 : g1.H Da = none) {y : D} {u : V} (r : R C.K g.F g.A y u) :
    ∃ us, g.H Da = some (.lst us) ∧ us.length = acc.length ∧ Ac C g1 Da ρ S σ (g.pv Da (.lst (us ++ [u]))) (acc ++ [y]) := by
  obtain ⟨us, h1, h2⟩ := a.at_
  refine ⟨us, h1, (Rs_len h2).symm, a.st.alterF h1 a.fr, ⟨a.le.le, fun b o hb => ?_, fun b o f hb => ?_⟩, a.fr, us ++ [u], upd_same, Rs_append h2 (Rs_one r)⟩
  · have hne : b ≠ Da := fun z => by subst z; rw [h0] at hb; cases hb
    obtain ⟨o', h'⟩ := a.le.track b o hb
    exact ⟨o', by show upd g.H Da _ b = _; rw [upd_ne hne]; exact h'⟩
  · have hne : b ≠ Da := fun z => by subst z; rw [h0] at hb; cases hb
    obtain ⟨h', f'⟩ := a.le.kp b o f hb
    exact ⟨by show upd g.H Da _ b = _; rw [upd_ne hne]; exact h', f'⟩
theorem Ac.same {g1 : Gs} {Da : Addr} {ρ ρ' : Env} {S : Store} {σ σ' : L2.St} {g g' : Gs} {acc : List D} (a : Ac C g1 Da ρ S σ g acc) (st : Stt C ρ' S σ' g') (s : Same C g g') : Ac C g1 Da ρ' S σ' g' acc := a.go st s.gle
theorem lc_inner {vs us : List Nat} {mt : D → M Fl} {tt : M Bool} {te : M D} {t : TG} {t1 : TT} {t2 : TE} (hu : ∀ u, u ∈ us → u ∈ vs)
    (sg : ∀ ρ S σ g d v Q, Stt C ρ S σ g → R C.K g.F g.A d v → TPost C g σ us (mt d ρ S) Q → t v σ g.H Q)
    (s1 : ∀ ρ S σ g Q, Stt C ρ S σ g → PostG C g σ (fun _ _ b v => v = b) (tt ρ S) Q → t1 σ g.H Q)
    (s2 : ∀ ρ S σ g Q, Stt C ρ S σ g → PostG C g σ (fun _ g d v => R C.K g.F g.A d v) (te ρ S) Q → t2 σ g.H Q)
    {g1 g : Gs} {Da : Addr} {ρ : Env} {S : Store} {σ : L2.St} {acc : List D} {J : It} {ds : List D} (h0 : g1.H Da = none) (a : Ac C g1 Da ρ S σ g acc) (it : ItD C g J ds) {zs tail : List D} {ρe : Env} {Se : Store} (eL : lcL vs mt tt te ds ρ S = .ok zs ρe Se) (hb : (acc ++ zs ++ tail).length < 10000000)
    {Nx : Hp → Prop} (hN : ∀ σ' g', σ'.length = σ.length → wipe σ' vs = wipe σ vs → Ac C g1 Da ρe Se σ' g' (acc ++ zs) → Le g.F g.A g'.F g'.A → Nx g'.H) :
    ∃ W1 : Nat → Nat → Hp → Prop, (∃ m, W1 0 m g.H) ∧ ∀ j k H, W1 j k H → (J.stop j H ∧ Nx H) ∨ (J.go j H ∧ ∃ Nx1 : Hp → Prop, (∀ H', Nx1 H' → ∃ k', k' < k ∧ W1 (j + 1) k' H') ∧ ∀ x H', J.yld j H x H' → t x (wipe σ vs) H' fun σ3 H5 => wipe σ3 vs = wipe σ vs ∧ t1 σ3 H5 fun b H6 =>
      if b = true then t2 σ3 H6 fun y H7 => ∃ acc, H7 Da = some (.lst acc) ∧ acc.length < sizeLine ∧ Nx1 (upd H7 Da (.lst (acc ++ [y]))) else Nx1 H6) := by
  obtain ⟨n, G, Y, w, en, hG, hY⟩ := it
  refine walk_W w (fun i H' => ∃ ρ' S' σ' g' acc' ys, H' = g'.H ∧ Ac C g1 Da ρ' S' σ' g' acc' ∧ σ'.length = σ.length ∧ wipe σ' vs = wipe σ vs ∧ Le g.F g.A g'.F g'.A ∧ lcL vs mt tt te (ds.drop i) ρ' S' = .ok ys ρe Se ∧ acc ++ zs = acc' ++ ys) ⟨ρ, S, σ, g, acc, zs, rfl, a, rfl, rfl, Le.refl _ _, by rw [List.drop_zero]; exact eL, rfl⟩ ?_ ?_ ?_
  · rintro i H' _ ⟨ρ', S', σ', g', acc', ys, rfl, a', hl', hw', le', eq', ez⟩
    exact hG g' le' a'.st.wd.sub
  · rintro i x H' H2 hin ⟨ρ', S', σ', g', acc', ys, rfl, a', hl', hw', le', eq', ez⟩ y
    obtain ⟨g2, d, hd, rfl, st2, le2, r2⟩ := hY ρ' S' σ' g' i x H2 a'.st le' hin y
    have hl : i < ds.length := by rw [en]; exact hin
    have hdrop : ds.drop i = d :: ds.drop (i + 1) := by
      rw [List.drop_eq_getElem_cons hl]
      rw [List.getElem?_eq_getElem hl] at hd
      cases hd; rfl
    rw [hdrop] at eq'
    obtain ⟨g3, st3, s3⟩ := st2.wipe2 vs
    have a3 := (a'.go st2 le2).same st3 s3
    have h3 : g3.H = g2.H := s3.H
    have r3 : R C.K g3.F g3.A d x := by rw [s3.F, s3.A]; exact r2
    rw [← hw', ← h3]
    have le3 : Le g'.F g'.A g3.F g3.A := le2.le.trans s3.gle.le
    refine sg (wipeE ρ' vs) S' (wipe σ' vs) g3 d x _ st3 r3 ?_
    unfold lcL at eq'
    cases e1 : mt d (wipeE ρ' vs) S' with
    | ok f ρ4 S4 =>
      rw [e1] at eq'
      cases f with
      | nx =>
        intro σ4 g4 st4 le4 eh fr4 el4 ek4
        have hw4 : wipe σ4 vs = wipe (wipe σ' vs) vs := wipe_out el4 fun k hk => ek4 k fun m => hk (hu k m)
        refine ⟨by rw [hw4, wipe_wipe], ?_⟩
        dsimp only at eq'
        have gle4 : GLe C g3 g4 := ⟨le4, fun a o ho => ⟨o, by rw [eh]; exact ho⟩, fun a o f ho => ⟨by rw [eh]; exact ho, fr4 a f⟩⟩
        have a4 := a3.go st4 gle4
        refine s1 ρ4 S4 σ4 g4 _ st4 ?_
        cases e2 : tt ρ4 S4 with
        | ok b ρ5 S5 =>
          rw [e2] at eq'
          intro v g5 st5 le5 ev
          subst ev
          have a5 := a4.go st5 le5
          cases v with
          | true =>
            rw [if_pos rfl]
            dsimp only at eq'
            refine s2 ρ5 S5 σ4 g5 _ st5 ?_
            cases e3 : te ρ5 S5 with
            | ok y ρ6 S6 =>
              rw [e3] at eq'
              intro u g6 st6 le6 r6
              dsimp only at eq'
              cases e4 : lcL vs mt tt te (ds.drop (i + 1)) ρ6 S6 with
              | ok ys2 ρ7 S7 =>
                rw [e4] at eq'
                cases eq'
                obtain ⟨us', hD6, hlu, a7⟩ := (a5.go st6 le6).add h0 r6
                have hlen' : us'.length < sizeLine := by
                  rw [hlu]
                  refine cap_lt ?_
                  rw [ez] at hb
                  simp at hb; omega
                refine ⟨us', hD6, hlen', ρ6, S6, σ4, _, acc' ++ [y], ys2, rfl, a7, ?_, ?_, ((le'.trans le3).trans le4).trans (le5.le.trans le6.le), e4, ?_⟩
                · rw [el4, wipe_length, hl']
                · rw [hw4, wipe_wipe, hw']
                · rw [ez]; simp
              | exc x ρ7 S7 => rw [e4] at eq'; cases eq'
              | bad => rw [e4] at eq'; cases eq'
            | exc x ρ6 S6 => rw [e3] at eq'; cases eq'
            | bad => rw [e3] at eq'; cases eq'
          | false =>
            rw [if_neg Bool.false_ne_true]
            dsimp only at eq'
            exact ⟨ρ5, S5, σ4, g5, acc', ys, rfl, a5, by rw [el4, wipe_length, hl'], by rw [hw4, wipe_wipe, hw'], ((le'.trans le3).trans le4).trans le5.le, eq', ez⟩
        | exc x ρ5 S5 => rw [e2] at eq'; cases eq'
        | bad => rw [e2] at eq'; cases eq'
      | _ => cases eq'
    | exc x ρ4 S4 => rw [e1] at eq'; cases eq'
    | bad => rw [e1] at eq'; cases eq'
  · rintro H' ⟨ρ', S', σ', g', acc', ys, rfl, a', hl', hw', le', eq', ez⟩
    rw [← en, List.drop_length] at eq'
    unfold lcL at eq'
    cases eq'
    rw [List.append_nil] at ez
    rw [ez] at hN
    exact hN σ' g' hl' hw' a' le'
def lc2L (vs : List Nat) (mt : D → M Fl) (tt : M Bool) (mi1 : M (List D)) (vs1 : List Nat) (mt1 : D → M Fl) (tt1 : M Bool) (te : M D) : List D → M (List D)
  | [] => fun ρ S => .ok [] ρ S
  | d :: ds => fun ρ S => match mt d (wipeE ρ vs) S with
    | .ok .nx ρ1 S1 => (match tt ρ1 S1 with
      | .ok true ρ2 S2 => (match mi1 ρ2 S2 with
        | .ok ds1 ρ3 S3 => (match lcL vs1 mt1 tt1 te ds1 ρ3 S3 with
          | .ok ys ρ4 S4 => (match lc2L vs mt tt mi1 vs1 mt1 tt1 te ds ρ4 S4 with
            | .ok zs ρ5 S5 => .ok (ys ++ zs) ρ5 S5
            | _ => .bad)
          | _ => .bad)
        | _ => .bad)
      | .ok false ρ2 S2 => lc2L vs mt tt mi1 vs1 mt1 tt1 te ds ρ2 S2
      | _ => .bad)
    | _ => .bad
def mLC2 (vs : List Nat) (mi : M (List D)) (mt : D → M Fl) (tt : M Bool) (mi1 : M (List D)) (vs1 : List Nat) (mt1 : D → M Fl) (tt1 : M Bool) (te : M D) : M RV := mi.bind fun ds => fun ρ S => match lc2L vs mt tt mi1 vs1 mt1 tt1 te ds ρ S with
  | .ok ys ρ1 S1 => if ys.length < 10000000 then .ok (.own ys) (restE ρ (wipeE ρ1 vs) vs) S1 else .bad
  | _ => .bad
theorem lc2_read {vs vs1 us us1 : List Nat} {mi mi1 : M (List D)} {mt mt1 : D → M Fl} {tt tt1 : M Bool} {te : M D} {wi wi1 : TI} {t t' : TG} {t1 t1' : TT} {t2 : TE}
    (hu : ∀ u, u ∈ us → u ∈ vs) (hu1 : ∀ u, u ∈ us1 → u ∈ vs1) (hv : ∀ u, u ∈ vs1 → u ∈ vs)
    (si : ∀ ρ S σ g (Rk : It → Hp → Prop), Stt C ρ S σ g → PostG C g σ (fun _ g' ds J => ItD C g' J ds) (mi ρ S) Rk → wi σ g.H Rk)
    (sg : ∀ ρ S σ g d v Q, Stt (bx C scope) ρ S σ g → R C.K g.F g.A d v → TPost (bx C scope) g σ us (mt d ρ S) Q → t v σ g.H Q)
    (s1 : ∀ ρ S σ g Q, Stt (bx C scope) ρ S σ g → PostG (bx C scope) g σ (fun _ _ b v => v = b) (tt ρ S) Q → t1 σ g.H Q)
    (si1 : ∀ ρ S σ g (Rk : It → Hp → Prop), Stt (bx C scope) ρ S σ g → PostG (bx C scope) g σ (fun _ g' ds J => ItD (bx C scope) g' J ds) (mi1 ρ S) Rk → wi1 σ g.H Rk)
    (sg1 : ∀ ρ S σ g d v Q, Stt (bx C scope) ρ S σ g → R C.K g.F g.A d v → TPost (bx C scope) g σ us1 (mt1 d ρ S) Q → t' v σ g.H Q)
    (s1' : ∀ ρ S σ g Q, Stt (bx C scope) ρ S σ g → PostG (bx C scope) g σ (fun _ _ b v => v = b) (tt1 ρ S) Q → t1' σ g.H Q)
    (s2 : ∀ ρ S σ g Q, Stt (bx C scope) ρ S σ g → PostG (bx C scope) g σ (fun _ g d v => R C.K g.F g.A d v) (te ρ S) Q → t2 σ g.H Q) :
    ∀ ρ S σ g Q, Stt C ρ S σ g → PostG C g σ (RVR C) (mLC2 vs mi mt tt mi1 vs1 mt1 tt1 te ρ S) Q → tLc2 wi t t1 wi1 t' t1' t2 vs vs1 σ g.H Q := fun ρ S σ g Q st h => by
  refine si ρ S σ g _ st (postG_bind h fun ds ρ0 S0 J g1 _ st1 le1 it h1 => ?_)
  obtain ⟨n, G, Y, w, en, hG, hY⟩ := it
  cases eL : lc2L vs mt tt mi1 vs1 mt1 tt1 te ds ρ0 S0 with
  | ok zs ρe Se =>
    rw [eL] at h1
    dsimp only at h1
    by_cases hz : zs.length < 10000000
    · rw [if_pos hz] at h1
      intro Da hD
      refine walk_W w (Step := fun i x H' Nx => t x (wipe σ vs) H' fun σ2 H2 => wipe σ2 vs = wipe σ vs ∧ t1 σ2 H2 fun b H3 => if b = true then wi1 σ2 H3 fun J1 H4 => ∃ W1 : Nat → Nat → Hp → Prop, (∃ m, W1 0 m H4) ∧ ∀ j k H, W1 j k H →
          (J1.stop j H ∧ Nx H) ∨ (J1.go j H ∧ ∃ Nx1 : Hp → Prop, (∀ H', Nx1 H' → ∃ k', k' < k ∧ W1 (j + 1) k' H') ∧ ∀ x H', J1.yld j H x H' → t' x (wipe σ2 vs1) H' fun σ3 H5 => wipe σ3 vs1 = wipe σ2 vs1 ∧ t1' σ3 H5 fun b H6 =>
            if b = true then t2 σ3 H6 fun y H7 => ∃ acc, H7 Da = some (.lst acc) ∧ acc.length < sizeLine ∧ Nx1 (upd H7 Da (.lst (acc ++ [y]))) else Nx1 H6) else Nx H3)
        (fun i H' => ∃ ρ' S' σ' g' acc ys, H' = g'.H ∧ Ac (bx C scope) g1 Da ρ' S' σ' g' acc ∧ σ'.length = σ.length ∧ wipe σ' vs = wipe σ vs ∧ lc2L vs mt tt mi1 vs1 mt1 tt1 te (ds.drop i) ρ' S' = .ok ys ρe Se ∧ zs = acc ++ ys) ?_ ?_ ?_ ?_
      · exact ⟨ρ0, S0, σ, g1.pv Da (.lst []), [], zs, rfl, ⟨(st1.priv hD).to_bx, ⟨(Stt.le_pv hD : GLe C g1 _).le, (Stt.le_pv hD : GLe C g1 _).track, (Stt.le_pv hD : GLe C g1 _).kp⟩, st1.free hD, [], upd_same, Rs_nil.mpr rfl⟩, rfl, rfl, by rw [List.drop_zero]; exact eL, rfl⟩
      · rintro i H' _ ⟨ρ', S', σ', g', acc, ys, rfl, a', hl', hw', eq', ez⟩
        exact hG g' a'.le.le a'.st.wd.sub
      · rintro i x H' H2 hin ⟨ρ', S', σ', g', acc, ys, rfl, a', hl', hw', eq', ez⟩ y
        obtain ⟨g2, d, hd, rfl, st2, le2, r2⟩ := hY ρ' S' σ' g' i x H2 a'.st.of_bx a'.le.le hin y
        have hl : i < ds.length := by rw [en]; exact hin
        have hdrop : ds.drop i = d :: ds.drop (i + 1) := by
          rw [List.drop_eq_getElem_cons hl]
          rw [List.getElem?_eq_getElem hl] at hd
          cases hd; rfl
        rw [hdrop] at eq'
        obtain ⟨g3, st3, s3⟩ := st2.wipe2 vs
        have a3 := (a'.go (g' := g2) st2.to_bx ⟨le2.le, le2.track, le2.kp⟩).go (g' := g3) st3.to_bx ⟨s3.gle.le, s3.gle.track, s3.gle.kp⟩
        have h3 : g3.H = g2.H := s3.H
        have r3 : R C.K g3.F g3.A d x := by rw [s3.F, s3.A]; exact r2
        rw [← hw', ← h3]
        refine sg (wipeE ρ' vs) S' (wipe σ' vs) g3 d x _ st3.to_bx r3 ?_
        unfold lc2L at eq'
        cases e1 : mt d (wipeE ρ' vs) S' with
        | ok f ρ4 S4 =>
          rw [e1] at eq'
          cases f with
          | nx =>
            intro σ4 g4 st4 le4 eh fr4 el4 ek4
            have hw4 : wipe σ4 vs = wipe (wipe σ' vs) vs := wipe_out el4 fun k hk => ek4 k fun m => hk (hu k m)
            refine ⟨by rw [hw4, wipe_wipe], ?_⟩
            dsimp only at eq'
            have gle4 : GLe (bx C scope) g3 g4 := ⟨le4, fun a o ho => ⟨o, by rw [eh]; exact ho⟩, fun a o f ho => ⟨by rw [eh]; exact ho, fr4 a f⟩⟩
            have a4 := a3.go st4 gle4
            refine s1 ρ4 S4 σ4 g4 _ st4 ?_
            cases e2 : tt ρ4 S4 with
            | ok b ρ5 S5 =>
              rw [e2] at eq'
              intro v g5 st5 le5 ev
              subst ev
              have a5 := a4.go st5 le5
              have hwT : wipe σ4 vs = wipe σ vs := by rw [hw4, wipe_wipe, hw']
              have hlT : σ4.length = σ.length := by rw [el4, wipe_length, hl']
              cases v with
              | true =>
                rw [if_pos rfl]
                dsimp only at eq'
                refine si1 ρ5 S5 σ4 g5 _ st5 ?_
                cases e3 : mi1 ρ5 S5 with
                | ok ds1 ρ6 S6 =>
                  rw [e3] at eq'
                  intro J1 g6 st6 le6 it1
                  dsimp only at eq'
                  cases e4 : lcL vs1 mt1 tt1 te ds1 ρ6 S6 with
                  | ok ys1 ρ7 S7 =>
                    rw [e4] at eq'
                    dsimp only at eq'
                    cases e5 : lc2L vs mt tt mi1 vs1 mt1 tt1 te (ds.drop (i + 1)) ρ7 S7 with
                    | ok zs1 ρ8 S8 =>
                      rw [e5] at eq'
                      cases eq'
                      have a6 := a5.go st6 le6
                      refine lc_inner (C := bx C scope) hu1 sg1 s1' s2 hD a6 it1 e4 (tail := zs1) (by rw [List.append_assoc, ← ez]; exact hz) fun σ' g' hl2 hw2 a7 _ => ?_
                      refine ⟨ρ7, S7, σ', g', acc ++ ys1, zs1, rfl, a7, by rw [hl2, hlT], ?_, e5, by rw [ez, List.append_assoc]⟩
                      rw [hw', ← hwT]
                      refine wipe_out hl2 fun k hk => ?_
                      have hk1 : k ∉ vs1 := fun m => hk (hv k m)
                      have := congrArg (fun l : L2.St => l[k]?) hw2
                      rw [wipe_get hk1, wipe_get hk1] at this
                      exact this
                    | exc x ρ8 S8 => rw [e5] at eq'; cases eq'
                    | bad => rw [e5] at eq'; cases eq'
                  | exc x ρ7 S7 => rw [e4] at eq'; cases eq'
                  | bad => rw [e4] at eq'; cases eq'
                | exc x ρ6 S6 => rw [e3] at eq'; cases eq'
                | bad => rw [e3] at eq'; cases eq'
              | false =>
                rw [if_neg Bool.false_ne_true]
                dsimp only at eq'
                exact ⟨ρ5, S5, σ4, g5, acc, ys, rfl, a5, hlT, hwT.trans hw'.symm, eq', ez⟩
            | exc x ρ5 S5 => rw [e2] at eq'; cases eq'
            | bad => rw [e2] at eq'; cases eq'
          | _ => cases eq'
        | exc x ρ4 S4 => rw [e1] at eq'; cases eq'
        | bad => rw [e1] at eq'; cases eq'
      · rintro H' ⟨ρ', S', σ', g', acc, ys, rfl, a', hl', hw', eq', ez⟩
        rw [← en, List.drop_length] at eq'
        unfold lc2L at eq'
        cases eq'
        rw [List.append_nil] at ez
        subst ez
        obtain ⟨g3, st3, s3⟩ := a'.st.of_bx.wipe2 vs
        have st4 := st3.swap (σ' := σ) hl'.symm hw'.symm
        have leC : GLe C g1 g' := ⟨a'.le.le, a'.le.track, a'.le.kp⟩
        obtain ⟨g4, st5, s5⟩ := st4.rest st1 (by rw [s3.F, s3.A]; exact leC.le) vs
        have sT := s3.trans s5
        obtain ⟨us', hD', rD⟩ := a'.at_
        have fD4 := sT.fr Da a'.fr
        have := h1 (.ref Da) g4 st5 (leC.trans sT.gle) ⟨[Da], fun a ha => by rw [List.mem_singleton] at ha; subst ha; exact ⟨fD4, hD⟩, Da, us', rfl, rfl, by rw [sT.H]; exact hD', by rw [sT.F, sT.A]; exact rD⟩
        rw [sT.H] at this
        exact this
    · rw [if_neg hz] at h1; exact h1.elim
  | exc x ρe Se => rw [eL] at h1; exact h1.elim
  | bad => rw [eL] at h1; exact h1.elim
end
section
variable {C : Ctx} {elt tg iter tg1 iter1 : Expr} {ifs ifs1 : List Expr} {scope : Scope} {own : List (Str × Nat)} {pos : Pos} {mi mi1 : M (List D)} {mt mt1 : D → M Fl} {tt tt1 : M Bool} {te : M D} {us us1 : List Nat}
theorem all_in {us vs : List Nat} (h : us.all (fun u => vs.contains u) = true) : ∀ u, u ∈ us → u ∈ vs := fun u m => by
  have := List.all_eq_true.mp h u m
  simpa using this
theorem do_lc2 (vs1 : List Nat) (hi : DI C tg iter mi) (ok : blkC C.N C.sc scope own = true := by dsimp only [bodyC, bx]; decide +kernel) (hg : DG (bx C scope) tg us mt) (hu : us.all (fun u => (own.map (·.2)).contains u) = true := by rfl) (h1 : DTs (bx C scope) ifs tt)
    (hi1 : DI (bx C scope) tg1 iter1 mi1) (hg1 : DG (bx C scope) tg1 us1 mt1) (hu1 : us1.all (fun u => vs1.contains u) = true := by rfl) (hv : vs1.all (fun u => (own.map (·.2)).contains u) = true := by rfl) (h1' : DTs (bx C scope) ifs1 tt1) (h2 : DE (bx C scope) elt te)
    (hs : ∀ (X : Cx) x, foldedSetIterable iter X.env x = pure x := by intros; rfl) (hs1 : ∀ env x, foldedSetIterable iter1 env x = pure x := by intros; rfl) :
    DO C (.ListComp elt [⟨tg, iter, ifs, 0⟩, ⟨tg1, iter1, ifs1, 0⟩] scope pos) (mLC2 (own.map (·.2)) mi mt tt mi1 vs1 mt1 tt1 te) := by
  obtain ⟨wi, hi, si⟩ := hi
  obtain ⟨t, ht, sg⟩ := hg
  obtain ⟨t1, ht1, s1⟩ := h1
  obtain ⟨wi1, hi1, si1⟩ := hi1
  obtain ⟨t', ht', sg1⟩ := hg1
  obtain ⟨t1', ht1', s1'⟩ := h1'
  obtain ⟨t2, ht2, s2⟩ := h2
  exact ⟨tLc2 wi t t1 wi1 t' t1' t2 (own.map (·.2)) vs1, fun X L => pe_lc2 L.calm (by rw [L.N]; exact L.nd) (hi X L) (by rw [L.N, L.sc]; exact blkOk_by ok) (all_in hv) (fun s H c cl fp => ht _ (lc_bx L s H c cl fp)) (fun s H c cl fp => ht1 _ (lc_bx L s H c cl fp)) (fun s H c cl fp => hi1 _ (lc_bx L s H c cl fp)) (fun s H c cl fp => ht' _ (lc_bx L s H c cl fp)) (fun s H c cl fp => ht1' _ (lc_bx L s H c cl fp)) (fun s H c cl fp => ht2 _ (lc_bx L s H c cl fp)) (hs X) hs1,
    lc2_read (all_in hu) (all_in hu1) (all_in hv) si sg s1 si1 sg1 s1' s2⟩
theorem ds_setLc2 {y : Str} {py spos : Pos} (i : Nat) (vs1 : List Nat) (hy : C.N[i]? = some y := by rfl) (hyl : C.sc.names.lookup y = some .local := by rfl) (hkf : C.sc.kind = .function := by rfl) (hll : (py.line == pos.line) = true := by rfl) (hal : (scope.names.any fun (n, k) => n == y && (k == .local || k == .cell)) = false := by decide +kernel)
    (hi : DI C tg iter mi) (ok : blkC C.N C.sc scope own = true := by dsimp only [bodyC, bx]; decide +kernel) (hg : DG (bx C scope) tg us mt) (hu : us.all (fun u => (own.map (·.2)).contains u) = true := by rfl) (h1 : DTs (bx C scope) ifs tt)
    (hi1 : DI (bx C scope) tg1 iter1 mi1) (hg1 : DG (bx C scope) tg1 us1 mt1) (hu1 : us1.all (fun u => vs1.contains u) = true := by rfl) (hv : vs1.all (fun u => (own.map (·.2)).contains u) = true := by rfl) (h1' : DTs (bx C scope) ifs1 tt1) (h2 : DE (bx C scope) elt te)
    (hs : ∀ (X : Cx) x, foldedSetIterable iter X.env x = pure x := by intros; rfl) (hs1 : ∀ env x, foldedSetIterable iter1 env x = pure x := by intros; rfl) :
    DS C (.Assign [.Name y py] (.ListComp elt [⟨tg, iter, ifs, 0⟩, ⟨tg1, iter1, ifs1, 0⟩] scope pos) spos) (sSet i (mLC2 (own.map (·.2)) mi mt tt mi1 vs1 mt1 tt1 te)) := by
  obtain ⟨wi, hi, si⟩ := hi
  obtain ⟨t, ht, sg⟩ := hg
  obtain ⟨t1, ht1, s1⟩ := h1
  obtain ⟨wi1, hi1, si1⟩ := hi1
  obtain ⟨t', ht', sg1⟩ := hg1
  obtain ⟨t1', ht1', s1'⟩ := h1'
  obtain ⟨t2, ht2, s2⟩ := h2
  exact ⟨tAsg (tLc2 wi t t1 wi1 t' t1' t2 (own.map (·.2)) vs1) (gName i), fun X L => ps_setLc2 L.calm (by rw [L.N]; exact L.nd) (by rw [L.N]; exact hy) (by rw [L.sc]; exact hyl) (sw_true (by rw [L.sc]; exact hkf) (by rw [L.sc]; exact hyl) hll hal) (hi X L) (by rw [L.N, L.sc]; exact blkOk_by ok) (all_in hv) (fun s H c cl fp => ht _ (lc_bx L s H c cl fp)) (fun s H c cl fp => ht1 _ (lc_bx L s H c cl fp)) (fun s H c cl fp => hi1 _ (lc_bx L s H c cl fp)) (fun s H c cl fp => ht' _ (lc_bx L s H c cl fp)) (fun s H c cl fp => ht1' _ (lc_bx L s H c cl fp)) (fun s H c cl fp => ht2 _ (lc_bx L s H c cl fp)) (hs X) hs1,
    set_core (lc2_read (all_in hu) (all_in hu1) (all_in hv) si sg s1 si1 sg1 s1' s2)⟩
end
end Thr
namespace Thr
open PySem PySem.Spec PyProof.Rows L2 RZ

/-! ### rows of texts, sorted -/
def leT (a b : List Nat) : Bool := !Spec.ltCps b a
def insS (x : List Nat) : List (List Nat) → List (List Nat)
  | [] => [x]
  | y :: r => if leT x y = true then x :: y :: r else y :: insS x r
def srtS : List (List Nat) → List (List Nat)
  | [] => []
  | x :: r => insS x (srtS r)
theorem insS_perm (x : List Nat) : ∀ l, (insS x l).Perm (x :: l)
  | [] => List.Perm.refl _
  | y :: r => by
    unfold insS
    split
    · exact List.Perm.refl _
    · exact ((insS_perm x r).cons y).trans (List.Perm.swap x y r)
theorem srtS_perm : ∀ l, (srtS l).Perm l
  | [] => List.Perm.refl _
  | x :: r => (insS_perm x _).trans ((srtS_perm r).cons x)
theorem leT_iff {a b : List Nat} : leT a b = true ↔ a ≤ b := by
  unfold leT
  rw [ltCps_eq, ← List.not_lt]
  simp
theorem insS_pw (x : List Nat) : ∀ l : List (List Nat), l.Pairwise (· ≤ ·) → (insS x l).Pairwise (· ≤ ·)
  | [], _ => by simp [insS]
  | y :: r, h => by
    obtain ⟨h1, h2⟩ := List.pairwise_cons.mp h
    unfold insS
    split
    · rename_i hc
      have hc' := leT_iff.mp hc
      refine List.pairwise_cons.mpr ⟨fun z hz => ?_, h⟩
      rcases List.mem_cons.mp hz with q | q
      · rw [q]; exact hc'
      · exact List.le_trans hc' (h1 z q)
    · rename_i hc
      have hc' : y ≤ x := by
        rw [leT_iff] at hc
        rw [← List.not_lt]
        exact fun z => hc (List.not_lt.mp fun w => by
          have := List.lt_trans z w
          exact List.lt_irrefl _ this)
      refine List.pairwise_cons.mpr ⟨fun z hz => ?_, insS_pw x r h2⟩
      rcases List.mem_cons.mp ((insS_perm x r).mem_iff.mp hz) with q | q
      · rw [q]; exact hc'
      · exact h1 z q
theorem srtS_pw : ∀ l : List (List Nat), (srtS l).Pairwise (· ≤ ·)
  | [] => List.Pairwise.nil
  | x :: r => insS_pw x _ (srtS_pw r)
theorem sortedS_is {ss : List (List Nat)} {ys : List Str} (p : ys.Perm (ss.map mkS)) (h : sortedS ys = true) : ys = (srtS ss).map mkS := by
  refine sorted_uniq (sorted_le h) ?_ (p.trans ((srtS_perm ss).map mkS).symm)
  rw [List.pairwise_map]
  exact (srtS_pw ss).imp fun {a b} z => by
    show (mkS a).cps.toList ≤ (mkS b).cps.toList
    rw [mkS_toList, mkS_toList]; exact z
/-! sorted(xs), sorted(d) -/
def fSort : List D → Option RV
  | [.dic ks _] => (strsD ks).bind fun ss => if ss.length < 64 then some (.own ((srtS ss).map D.str)) else none
  | [d] => (lstOf d).bind fun xs => (strsD xs).bind fun ss => if ss.length < 64 then some (.own ((srtS ss).map D.str)) else none
  | _ => none
def rSortB (K : PySem.W.Frag) : List V → Hp → VK → Prop := fun xs H Q => rSortedS K xs H Q ∨ ∃ (a : Addr) (kvs : List (Key × V)) (ks : List Str), xs = [.ref a] ∧ Rd H a (.dK kvs) ∧ kvs.map (·.1) = ks.map Sum.inr ∧ ks.length < 64 ∧
    ∀ ys p, ys.Perm ks → sortedS ys = true → H p = none → Q (.ref p) (upd H p (.lst (ys.map V.str)))
section
variable {C : Ctx}
theorem hr_sort : ∀ X, Lc C X → CallR X (.builtin "sorted") (rSortB C.K) := fun X L => by
  intro pins s σ H xs us Q I r q
  rcases q with q | q
  · have := cr_sortedS (X := X)
    rw [L.K] at this
    exact this pins s σ H xs us Q I r q
  · exact call_sortedD L.calm pins s σ H xs us Q I r q
theorem keys_strs : ∀ {ks : List D} {kvs : List (Key × V)} {ss : List (List Nat)}, ks.map keyD = kvs.map (fun p => some p.1) → strsD ks = some ss → kvs.map (·.1) = (ss.map mkS).map Sum.inr
  | [], [], ss, _, e => by cases e; rfl
  | [], _ :: _, _, h, _ => by simp at h
  | _ :: _, [], _, h, _ => by simp at h
  | q :: ks, (k1, v1) :: kvs, ss, h, e => by
    simp only [List.map_cons, List.cons.injEq] at h
    cases q with
    | str s =>
      unfold strsD at e
      cases z : strsD ks with
      | none => rw [z] at e; cases e
      | some tt =>
        rw [z] at e
        cases e
        have ih := keys_strs h.2 z
        have h1 : k1 = Sum.inr (mkS s) := (Option.some.inj h.1).symm
        simp only [List.map_cons, ih, h1]
    | _ => cases e
theorem sort_fin {ρ : Env} {S : Store} {σ : L2.St} {g : Gs} {ss : List (List Nat)} {rv : RV} {Q : VK} (st : Stt C ρ S σ g) (e : rv = .own ((srtS ss).map D.str)) (k : ∀ w g', Stt C ρ S σ g' → GLe C g g' → RVR C g g' rv w → Q w g'.H) :
    ∀ (ys : List Str) (p : Addr), ys.Perm (ss.map mkS) → sortedS ys = true → g.H p = none → Q (.ref p) (upd g.H p (.lst (ys.map V.str))) := fun ys p pm hs hp => by
  have ey := sortedS_is pm hs
  subst ey
  subst e
  exact k (.ref p) _ (st.priv hp) (Stt.le_pv hp) (own_new st hp (rs_strs (srtS ss)))
theorem cl_sort : CallS C (rSortB C.K) fSort := by
  intro ρ S σ g ds vs rv Q st r e k
  unfold fSort at e
  split at e
  · rename_i ks zs
    obtain ⟨v, rfl, rn⟩ := p1 r
    obtain ⟨a, kvs, rfl, h1, h2, h3⟩ := rn
    cases e1 : strsD ks with
    | none => rw [e1] at e; cases e
    | some ss =>
      rw [e1] at e
      have e' : (if ss.length < 64 then some (RV.own ((srtS ss).map D.str)) else none) = some rv := e
      by_cases hz : ss.length < 64
      · rw [if_pos hz] at e'
        exact .inr ⟨a, kvs, ss.map mkS, rfl, .inl h1, keys_strs h2 e1, by rw [List.length_map]; exact hz, sort_fin st (Option.some.inj e').symm k⟩
      · rw [if_neg hz] at e'; cases e'
  · rename_i d hd
    obtain ⟨v, rfl, rn⟩ := p1 r
    cases e0 : lstOf d with
    | none => rw [e0] at e; cases e
    | some xs =>
      rw [e0] at e
      obtain ⟨a, us, rfl, h1, h2⟩ := rn_lo st rn e0
      cases e1 : strsD xs with
      | none => have e' : (strsD xs).bind _ = some rv := e; rw [e1] at e'; cases e'
      | some ss =>
        have e' : (strsD xs).bind (fun ss => if ss.length < 64 then some (RV.own ((srtS ss).map D.str)) else none) = some rv := e
        rw [e1] at e'
        have e2 : (if ss.length < 64 then some (RV.own ((srtS ss).map D.str)) else none) = some rv := e'
        by_cases hz : ss.length < 64
        · rw [if_pos hz] at e2
          have ev := strs_of h2 e1
          subst ev
          exact .inl ⟨a, ss.map mkS, rfl, h1, by rw [List.length_map]; exact hz, sort_fin st (Option.some.inj e2).symm k⟩
        · rw [if_neg hz] at e2; cases e2
  · cases e
/-! ### len(d) -/
def fLenD : List D → Option RV
  | [.dic ks _] => some (.val (.int ks.length))
  | _ => none
theorem hr_lenD : ∀ X, Lc C X → CallR X (.builtin "len") (fun xs H Q => ∃ a kvs, xs = [V.ref a] ∧ H a = some (.dK kvs) ∧ Q (.int kvs.length) H) := fun X L => call_lenD
theorem cl_lenD : CallS C (fun xs H Q => ∃ a kvs, xs = [V.ref a] ∧ H a = some (.dK kvs) ∧ Q (.int kvs.length) H) fLenD := by
  intro ρ S σ g ds vs rv Q st r e k
  unfold fLenD at e
  split at e
  · rename_i ks zs
    cases e
    obtain ⟨v, rfl, rn⟩ := p1 r
    obtain ⟨a, kvs, rfl, h1, h2, h3⟩ := rn
    have hl : ks.length = kvs.length := by have := congrArg List.length h2; simpa using this
    refine ⟨a, kvs, rfl, h1, ?_⟩
    rw [← hl]
    exact k _ g st (GLe.refl _ _) vI
  · cases e
/-! ### a target of any form -/
def sAsg (m : M D) (mt : D → M Fl) : M Fl := m.bind fun d => fun ρ S => match mt d ρ S with
  | .ok .nx ρ1 S1 => .ok .nx ρ1 S1
  | _ => .bad
variable {tg e : Expr} {pos : Pos} {vs : List Nat}
theorem ds_asg {m : M D} {mt : D → M Fl} (hg : DG C tg vs mt) (he : DE C e m) (hs : ∀ X : Cx, swapsWithSole [tg] e pos.line X.env = pure false := by intros; rfl) (hw : ∀ E0 : PySem.Env, swappedStores [tg] e { E0 with scope := C.sc } = pure none := by intros; rfl)
    (h1 : ∀ X : Cx, (assignEach [tg] X.env).map (·.2) = [assign tg X.env] := by intros; rfl) : DS C (.Assign [tg] e pos) (sAsg m mt) := by
  obtain ⟨t, ht, sg⟩ := hg
  obtain ⟨te, hte, se⟩ := he
  refine ⟨tAsg te t, fun X L => ps_asg (hte X L) (ht X L) (hs X) (sw_of L.sc hw) (h1 X), fun ρ S σ g Dn st h => se ρ S σ g _ st ?_⟩
  unfold sAsg M.bind at h
  cases e1 : m ρ S with
  | ok d ρ1 S1 =>
    rw [e1] at h
    intro v g1 st1 le1 r1
    refine sg ρ1 S1 σ g1 d v _ st1 r1 ?_
    dsimp only at h
    cases e2 : mt d ρ1 S1 with
    | ok f ρ2 S2 =>
      rw [e2] at h
      cases f with
      | nx => exact fun σ' g' st' le' eh fr el ek => h σ' g' st' (le1.le.trans le')
      | _ => exact h.elim
    | exc x ρ2 S2 => rw [e2] at h; exact h.elim
    | bad => rw [e2] at h; exact h.elim
  | exc x ρ1 S1 => rw [e1] at h; exact fun cls dd g' st' xr => h σ cls dd g' st' xr
  | bad => rw [e1] at h; exact h.elim
end
end Thr
namespace Thr
open PySem PySem.Spec PyProof.Rows L2 RZ

/-! ### a list of one's own is lent to a test -/
def flt : D → Bool
  | .non | .bl _ | .int _ | .str _ | .typ _ => true
  | _ => false
def flatC : Cell → Bool
  | .lst xs => xs.all flt
  | .ins _ _ => false
def calmSl : Sl → Bool
  | .un | .val _ => true
  | _ => false
def lentRV : Sl → Option RV
  | .own xs => some (.own xs)
  | .ow2 false xss => some (.ow2 false xss)
  | _ => none
section
variable {K : PySem.W.Frag} {F F' : Hp} {A A' : List Addr}
theorem flt_R : ∀ {d : D} {v : V}, flt d = true → R K F A d v → R K F' A' d v
  | .non, v, _, h => by rw [R_non] at h ⊢; exact h
  | .bl b, v, _, h => by rw [R_bl] at h ⊢; exact h
  | .int b, v, _, h => by rw [R_int] at h ⊢; exact h
  | .str b, v, _, h => by rw [R_str] at h ⊢; exact h
  | .typ b, v, _, h => by rw [R_typ] at h ⊢; exact h
  | .tup _, _, e, _ => by simp [flt] at e
  | .lst _, _, e, _ => by simp [flt] at e
  | .rol _, _, e, _ => by simp [flt] at e
  | .dic _ _, _, e, _ => by simp [flt] at e
  | .cel _, _, e, _ => by simp [flt] at e
theorem flt_Rs : ∀ {ds : List D} {vs : List V}, ds.all flt = true → Rs K F A ds vs → Rs K F' A' ds vs
  | [], vs, _, h => by rw [Rs_nil] at h ⊢; exact h
  | d :: ds, vs, e, h => by
    obtain ⟨v, r, h1, h2, h3⟩ := Rs_cons.mp h
    rw [List.all_cons, Bool.and_eq_true] at e
    exact Rs_cons.mpr ⟨v, r, h1, flt_R e.1 h2, flt_Rs e.2 h3⟩
end
theorem inner_in {K : PySem.W.Frag} {F : Hp} {A : List Addr} : ∀ {as : List Addr} {xss : List (List D)}, Rs K F A (xss.map .lst) (as.map V.ref) → ∀ b, b ∈ as → ∃ o, F b = some o
  | [], _, _, b, hb => by simp at hb
  | a :: as, [], h, b, hb => by
    have := Rs_nil.mp h
    simp at this
  | a :: as, xs :: xss, h, b, hb => by
    obtain ⟨v, r, e, h2, h3⟩ := Rs_cons.mp h
    obtain ⟨e1, e2⟩ := List.cons.inj e
    rcases List.mem_cons.mp hb with q | q
    · subst q
      obtain ⟨a', vs, h4, h5, _⟩ := R_lst.mp h2
      rw [← e1] at h4
      cases h4
      exact ⟨_, h5⟩
    · rw [← e2] at h3
      exact inner_in h3 b q

def mBor (i : Nat) (m : M Bool) : M Bool := fun ρ S =>
  match (ρ[i]?).bind lentRV with
  | some rv =>
    if (ρ.set i .un).all calmSl then
      match m (ρ.set i (.val rv.toD)) S with
      | .ok b _ S' => if S'.all flatC && S'.length == S.length then .ok b ρ S' else .bad
      | _ => .bad
    else .bad
  | none => .bad

theorem SlR_lent {C : Ctx} {F F2 : Hp} {A A2 : List Addr} {H H2 : Hp} {sl : Sl} {rv : RV} {v : V} {p : List Addr} (el : lentRV sl = some rv) (sub : Ex F2 H) (h : SlR C F A H sl (some v) p) (r : R C.K F2 A2 rv.toD v) (k : ∀ a o, F2 a = some o → H2 a = some o) : SlR C F A H2 sl (some v) p := by
  cases sl with
  | un => cases el
  | val d => cases el
  | owd ks vs => cases el
  | own xs =>
    cases el
    obtain ⟨a, vs, h1, h2, h3, h4⟩ := h
    obtain ⟨b, ws, q1, q2, _⟩ := R_lst.mp r
    cases h2; cases q1
    have z := sub _ _ q2
    rw [h3] at z
    cases z
    exact ⟨_, vs, h1, rfl, k _ _ q2, h4⟩
  | ow2 t xss =>
    cases t with
    | true => cases el
    | false =>
      cases el
      obtain ⟨a, as, h1, h2, h3, h4, h5⟩ := h
      obtain ⟨b, ws, q1, q2, q3⟩ := R_lst.mp r
      cases h3; cases q1
      have z := sub _ _ q2
      rw [h4] at z
      cases z
      refine ⟨_, as, h1, h2, rfl, k _ _ q2, ?_⟩
      have ii := inner_in q3
      refine Inner_mono (Le.refl _ _) _ _ (fun b hb u hu => ?_) h5
      obtain ⟨o, ho⟩ := ii b hb
      have z := sub _ _ ho
      rw [hu] at z
      cases z
      exact k _ _ ho

theorem dt_bor {C : Ctx} {e : Expr} {m : M Bool} (i : Nat) (h : DT C e m) : DT C e (mBor i m) := by
  obtain ⟨t, ht, hs⟩ := h
  refine ⟨t, ht, fun ρ S σ g Q st hp => ?_⟩
  unfold mBor at hp
  cases e1 : (ρ[i]?).bind lentRV with
  | none => rw [e1] at hp; exact hp.elim
  | some rv =>
    rw [e1] at hp
    dsimp only at hp
    by_cases hc : (ρ.set i .un).all calmSl = true
    rotate_left
    · rw [if_neg hc] at hp; exact hp.elim
    rw [if_pos hc] at hp
    obtain ⟨sl, es, el⟩ := Option.bind_eq_some_iff.mp e1
    have es' : ρ[i]? = some rv.toSl := by
      rw [es]
      cases sl with
      | un => cases el
      | val d => cases el
      | owd ks vs => cases el
      | own xs => cases el; rfl
      | ow2 t xss => cases t <;> cases el; rfl
    obtain ⟨v, gF, hv, stF, leF, eH, r⟩ := slot_freeze st es'
    refine hs _ S σ gF Q stF ?_ |> fun z => by rw [eH] at z; exact z
    cases e2 : m (ρ.set i (.val rv.toD)) S with
    | bad => rw [e2] at hp; exact hp.elim
    | exc x ρ' S' => rw [e2] at hp; exact hp.elim
    | ok b ρ' S' =>
      rw [e2] at hp
      dsimp only at hp
      by_cases hf : (S'.all flatC && S'.length == S.length) = true
      rotate_left
      · rw [if_neg hf] at hp; exact hp.elim
      rw [if_pos hf] at hp
      rw [Bool.and_eq_true, beq_iff_eq] at hf
      intro w g' st' le' rw'
      refine hp w ⟨g.F, g.A, g'.H, g.P⟩ ?_ ?_ rw'
      · refine ⟨⟨st.go.le, st'.go.keep, st.go.fresh, st.go.newA, st'.go.track⟩, ⟨?_, ?_, st.wd.nd, st.wd.fr, ?_⟩, st.len, ?_, st.pr, st.dis, st.out⟩
        · exact fun a o q => st'.wd.sub _ _ (le'.le.ex _ _ (leF.le.ex _ _ q))
        · rw [hf.2]; exact st.wd.len
        · intro n c a hc2 ha
          have z := st'.wd.cel n c a hc2 (le'.le.pre _ _ (leF.le.pre _ _ ha))
          have fc : flatC c = true := List.all_eq_true.mp hf.1 c (List.mem_of_getElem? hc2)
          cases c with
          | ins _ _ => exact z
          | lst xs =>
            obtain ⟨vs, z1, z2⟩ := z
            exact ⟨vs, z1, flt_Rs fc z2⟩
        · intro j sl' ej
          by_cases hj : j = i
          · subst hj
            rw [es] at ej
            cases ej
            have s0 := st.at_ j _ es
            rw [hv] at s0 ⊢
            refine SlR_lent el ?_ s0 r fun a o q => st'.wd.sub _ _ (le'.le.ex _ _ q)
            rw [← eH]; exact stF.wd.sub
          · have s0 := st.at_ j _ ej
            have cs : calmSl sl' = true := List.all_eq_true.mp hc sl' (List.mem_of_getElem? (i := j) (by rw [List.getElem?_set_ne (Ne.symm hj)]; exact ej))
            cases sl' with
            | un => exact s0
            | val d => exact s0
            | own _ => cases cs
            | owd _ _ => cases cs
            | ow2 _ _ => cases cs
      · refine ⟨Le.refl _ _, fun a o q => ?_, fun a o f q => ?_⟩
        · obtain ⟨o1, q1⟩ := leF.track a o q
          exact le'.track a o1 q1
        · obtain ⟨q1, f1⟩ := leF.kp a o f q
          obtain ⟨q2, f2⟩ := le'.kp a o f1 q1
          exact ⟨q2, f⟩
end Thr
namespace Thr
open PySem PySem.Spec PyProof.Rows L2 RZ

/-! ### a name's list of one's own is given back as it is -/
def mvRV : Sl → Option RV
  | .own xs => some (.own xs)
  | .owd ks vs => some (.owd ks vs)
  | .val d => some (.val d)
  | _ => none
def sRetMv (i : Nat) : M Fl := fun ρ S => match (ρ[i]?).bind mvRV with
  | some rv => .ok (.rt rv) (ρ.set i .un) S
  | none => .bad
theorem ds_retMv {C : Ctx} {x : Str} {pos p2 : Pos} (i : Nat) (hN : C.N[i]? = some x := by rfl) (hv : Vis C.sc x := by first | exact Or.inl rfl | exact Or.inr (Or.inl rfl) | exact Or.inr (Or.inr rfl)) (hd : (x == ("__debug__" : Str)) = false := by decide +kernel) (hcd : (x == ("__classdict__" : Str)) = false := by decide +kernel) : DS C (.Return (some (.Name x p2)) pos) (sRetMv i) := by
  refine ⟨tRet (tVar i), fun X L => ps_ret (pe_var (by rw [L.N]; exact hN) (by rw [L.sc]; exact hv) hd hcd), fun ρ S σ g Dn st h => ?_⟩
  unfold sRetMv at h
  cases e1 : (ρ[i]?).bind mvRV with
  | none => rw [e1] at h; exact h.elim
  | some rv =>
    rw [e1] at h
    obtain ⟨sl, es, el⟩ := Option.bind_eq_some_iff.mp e1
    have e2 : sl = rv.toSl := by
      cases sl with
      | un => cases el
      | val d => cases el; rfl
      | own xs => cases el; rfl
      | owd ks vs => cases el; rfl
      | ow2 t xss => cases el
    rw [e2] at es
    obtain ⟨v, _, hv', _, _, _, _⟩ := slot_freeze st es
    have s0 := st.at_ i _ es
    rw [hv'] at s0
    refine ⟨v, hv', h σ ⟨g.F, g.A, g.H, fun j => if j = i then [] else g.P j⟩ v (st.forget i) ⟨g.P i, fun a ha => ⟨st.pr i a ha, fun j => ?_⟩, s0⟩⟩
    show a ∉ (if j = i then [] else g.P j)
    by_cases hj : j = i
    · rw [if_pos hj]; simp
    · rw [if_neg hj]; exact fun q => hj (st.dis j i a q ha)
end Thr
namespace Thr
open PySem PySem.Spec PyProof.Rows L2 RZ

/-! ### a display of lists of one's own -/
def InR (C : Ctx) (g0 g : Gs) (xss : List (List D)) (vs : List V) : Prop :=
  ∃ as : List Addr, vs = as.map V.ref ∧ as.Nodup ∧ (∀ a, a ∈ as → Free C g a ∧ g0.H a = none) ∧ Inner C.K g.F g.A g.H as xss
theorem inR_mono {C : Ctx} : ∀ g g1 g' (r : List (List D)) (v : List V), GLe C g g1 → InR C g1 g' r v → InR C g g' r v := fun g g1 g' r v le h => by
  obtain ⟨as, h1, h2, h3, h4⟩ := h
  exact ⟨as, h1, h2, fun a ha => ⟨(h3 a ha).1, le.new (h3 a ha).2⟩, h4⟩
def DL (C : Ctx) (es : List Expr) (m : M (List (List D))) : Prop :=
  ∃ t, (∀ X, Lc C X → PA X es t) ∧ ∀ ρ S σ g Q, Stt C ρ S σ g → PostG C g σ (InR C) (m ρ S) Q → t σ g.H Q
theorem postG_bindB {α β γ δ : Type} {C : Ctx} {g : Gs} {σ : L2.St} {ρ : Env} {S : Store} {Rel : Gs → Gs → α → β → Prop} {Rel' : Gs → Gs → γ → δ → Prop} {m : M α} {f : α → M γ} {Q : δ → Hp → Prop} {Qa : β → Hp → Prop}
    (h : PostG C g σ Rel' ((m.bind f) ρ S) Q)
    (k : ∀ a ρ1 S1 v g1, m ρ S = .ok a ρ1 S1 → Stt C ρ1 S1 σ g1 → GLe C g g1 → Rel g g1 a v → PostG C g1 σ (fun _ g' => Rel' g g') (f a ρ1 S1) Q → Qa v g1.H) : PostG C g σ Rel (m ρ S) Qa := by
  unfold M.bind at h
  cases e : m ρ S with
  | ok a ρ1 S1 =>
    rw [e] at h
    intro v g1 st le r
    refine k a ρ1 S1 v g1 e st le r ?_
    revert h
    show PostG C g σ Rel' (f a ρ1 S1) Q → PostG C g1 σ (fun _ g' => Rel' g g') (f a ρ1 S1) Q
    generalize f a ρ1 S1 = o
    cases o with
    | ok b ρ2 S2 => exact fun h v' g' st' le' r' => h v' g' st' (le.trans le') r'
    | exc x ρ2 S2 => exact fun h => h
    | bad => exact fun h => h
  | exc x ρ1 S1 =>
    rw [e] at h
    exact h
  | bad =>
    rw [e] at h
    exact h.elim
def mLNil : M (List (List D)) := M.ret []
def ownL : RV → Option (List D)
  | .own xs => some xs
  | _ => none
def mLCons (m : M RV) (n : M (List (List D))) : M (List (List D)) := m.bind fun rv => (M.opt (ownL rv)).bind fun xs => n.bind fun xss => M.ret (xs :: xss)
def mL2 (m : M (List (List D))) : M RV := m.bind fun xss => if xss.length < SZ then M.ret (.ow2 false xss) else fun _ _ => .bad
section
variable {C : Ctx} {e : Expr} {es : List Expr} {pos : Pos}
theorem inner_len {K : PySem.W.Frag} {F : Hp} {A : List Addr} {H : Hp} : ∀ {as : List Addr} {xss : List (List D)}, Inner K F A H as xss → as.length = xss.length
  | [], xss, h => by
    have h' : xss = [] := h
    rw [h']; rfl
  | a :: as, xss, h => by
    obtain ⟨xs, r, rfl, _, h3⟩ := h
    simp [inner_len h3]
theorem dl_nil : DL C [] mLNil := ⟨tNil, fun X L => pa_nil, fun ρ S σ g Q st h => h [] g st (GLe.refl _ _) ⟨[], rfl, List.nodup_nil, fun a ha => by simp at ha, rfl⟩⟩
theorem dl_cons {m : M RV} {n : M (List (List D))} (h : DO C e m) (h' : DL C es n) (hs : ∀ X : Cx, starEach (e :: es) X.env = (false, eval e X.env) :: starEach es X.env := by intros; rfl) : DL C (e :: es) (mLCons m n) := by
  obtain ⟨t, ht, s1⟩ := h
  obtain ⟨t', ht', s2⟩ := h'
  refine ⟨tCons t t', fun X L => pa_cons (ht X L) (ht' X L) (hs X), fun ρ S σ g Q st h => s1 ρ S σ g _ st (postG_bindB h fun rv ρ1 S1 v g1 _ st1 le1 r1 h1 => ?_)⟩
  cases rv with
  | val d => exact h1.elim
  | owd ks vs => exact h1.elim
  | ow2 t xss => exact h1.elim
  | own xs =>
    have h1' : PostG C g1 σ (fun _ g' => InR C g g') ((n.bind fun xss => M.ret (xs :: xss)) ρ1 S1) Q := h1
    refine s2 ρ1 S1 σ g1 _ st1 (postG_bindB h1' fun ds ρ2 S2 vs g2 _ st2 le2 r2 h2 => ?_)
    obtain ⟨p, q1, a, us, rfl, q2, q3, q4⟩ := r1
    cases q2
    obtain ⟨as, rfl, nd, z1, z2⟩ := r2
    have fa := q1 a (by simp)
    obtain ⟨k1, k2⟩ := le2.kp a _ fa.1 q3
    refine h2 (V.ref a :: as.map V.ref) g2 st2 (GLe.refl _ _) ⟨a :: as, rfl, List.nodup_cons.mpr ⟨fun hm => ?_, nd⟩, fun b hb => ?_, ⟨xs, ds, rfl, ⟨us, k1, Rs_mono le2.le _ _ q4⟩, z2⟩⟩
    · have := (z1 a hm).2
      rw [q3] at this; cases this
    · rcases List.mem_cons.mp hb with z | z
      · subst z; exact ⟨k2, fa.2⟩
      · exact ⟨(z1 b z).1, le1.new (z1 b z).2⟩
theorem do_ow2 {m : M (List (List D))} (h : DL C es m) : DO C (.List es pos) (mL2 m) := by
  obtain ⟨t, ht, hs⟩ := h
  refine ⟨tLst t, fun X L => pe_lst (ht X L), fun ρ S σ g Q st h => hs ρ S σ g _ st (postG_bindB h fun xss ρ1 S1 vs g1 _ st1 le1 r1 h1 => ?_)⟩
  by_cases hz : xss.length < SZ
  rotate_left
  · rw [if_neg hz] at h1; exact h1.elim
  rw [if_pos hz] at h1
  obtain ⟨as, rfl, nd, z1, z2⟩ := r1
  refine ⟨by rw [List.length_map, inner_len z2, SZ_eq]; exact Nat.le_of_lt hz, fun p hp => h1 (.ref p) (g1.pv p (.lst (as.map V.ref))) (st1.priv hp) (Stt.le_pv hp) ?_⟩
  have le := Stt.le_pv (C := C) (g := g1) (o := .lst (as.map V.ref)) hp
  have th := Inner_there _ _ z2
  have np : ∀ a, a ∈ as → a ≠ p := fun a ha => by
    obtain ⟨u, e⟩ := th a ha
    exact ne_of_none e hp
  refine ⟨p :: as, fun a ha => ?_, p, as, rfl, List.nodup_cons.mpr ⟨fun hm => np p hm rfl, nd⟩, rfl, upd_same, Inner_mono (Le.refl _ _) _ _ (fun a ha u hu => (le.kp a u (z1 a ha).1 hu).1) z2⟩
  rcases List.mem_cons.mp ha with z | z
  · subst z; exact ⟨st1.free hp, le1.new hp⟩
  · obtain ⟨u, e⟩ := th a z
    exact ⟨(le.kp a u (z1 a z).1 e).2, (z1 a z).2⟩
end
end Thr
namespace Thr
open PySem PySem.Spec PyProof.Rows L2 RZ

/-! ### cells of a def's own are dropped behind it -/
mutual
def noCel : D → Bool
  | .cel _ => false
  | .tup xs => noCels xs
  | .lst xs => noCels xs
  | .rol xs => noCels xs
  | .dic _ vs => noCels vs
  | _ => true
def noCels : List D → Bool
  | [] => true
  | d :: ds => noCel d && noCels ds
end
section
variable {K : PySem.W.Frag} {F : Hp} {A A' : List Addr}
mutual
theorem noCel_R : ∀ (d : D) (v : V), noCel d = true → R K F A d v → R K F A' d v
  | .non, v, _, h => by unfold R at h ⊢; exact h
  | .bl b, v, _, h => by unfold R at h ⊢; exact h
  | .int i, v, _, h => by unfold R at h ⊢; exact h
  | .str s, v, _, h => by unfold R at h ⊢; exact h
  | .typ n, v, _, h => by unfold R at h ⊢; exact h
  | .cel n, v, e, h => by simp [noCel] at e
  | .tup xs, v, e, h => by
    unfold R at h ⊢
    obtain ⟨a, vs, h1, h2, h3⟩ := h
    exact ⟨a, vs, h1, h2, noCel_Rs xs vs (by unfold noCel at e; exact e) h3⟩
  | .lst xs, v, e, h => by
    unfold R at h ⊢
    obtain ⟨a, vs, h1, h2, h3⟩ := h
    exact ⟨a, vs, h1, h2, noCel_Rs xs vs (by unfold noCel at e; exact e) h3⟩
  | .rol xs, v, e, h => by
    unfold R at h ⊢
    obtain ⟨a, vs, h1, h2, h3⟩ := h
    exact ⟨a, vs, h1, h2, noCel_Rs xs vs (by unfold noCel at e; exact e) h3⟩
  | .dic ks ds, v, e, h => by
    unfold R at h ⊢
    obtain ⟨a, kvs, h1, h2, h3, h4⟩ := h
    exact ⟨a, kvs, h1, h2, h3, noCel_Rs ds _ (by unfold noCel at e; exact e) h4⟩
theorem noCel_Rs : ∀ (ds : List D) (vs : List V), noCels ds = true → Rs K F A ds vs → Rs K F A' ds vs
  | [], vs, _, h => by unfold Rs at h ⊢; exact h
  | d :: ds, vs, e, h => by
    unfold Rs at h ⊢
    unfold noCels at e
    rw [Bool.and_eq_true] at e
    obtain ⟨v, r, h1, h2, h3⟩ := h
    exact ⟨v, r, h1, noCel_R d v e.1 h2, noCel_Rs ds r e.2 h3⟩
end
end
def noCelRV : RV → Bool
  | .val d => noCel d
  | .own xs => noCels xs
  | .owd _ vs => noCels vs
  | .ow2 _ _ => false
def mTrim (f : MF) : MF := fun ds S => match f ds S with
  | .ok r S' => if noCelRV r && (S'.take S.length).all flatC then .ok r (S'.take S.length) else .bad
  | _ => .bad

theorem take_get {α : Type} {l : List α} {k n : Nat} {a : α} (h : (l.take k)[n]? = some a) : l[n]? = some a ∧ n < k := by
  rw [List.getElem?_take] at h
  split at h
  · exact ⟨h, by assumption⟩
  · cases h
section
variable {prog : Program} {w : World} {K : PySem.W.Frag} {mg : Str → Option Value} {base : Heap}
theorem sp_trim {m : MF} {vs : List V} {H : Hp} {Q : VK} {E : XK} (h : sp0 K (mTrim m) vs H Q E) : sp0 K m vs H Q E := by
  obtain ⟨F, A, ds, S, W, r, h⟩ := h
  refine ⟨F, A, ds, S, W, r, ?_⟩
  unfold mTrim at h
  cases e : m ds S with
  | bad => rw [e] at h; exact h.elim
  | exc x S' => rw [e] at h; exact h.elim
  | ok rv S' =>
    rw [e] at h
    dsimp only at h
    by_cases hc : (noCelRV rv && (S'.take S.length).all flatC) = true
    rotate_left
    · rw [if_neg hc] at h; exact h.elim
    rw [if_pos hc] at h
    rw [Bool.and_eq_true] at hc
    intro v F' A' H' W' G hr
    have hl : A.length = S.length := W.len
    refine h v F' (A'.take S.length) H' ⟨W'.sub, by rw [List.length_take, List.length_take, W'.len], W'.nd.sublist (List.take_sublist _ _), fun a ha => W'.fr a (List.mem_of_mem_take ha), fun n c a hS hA => ?_⟩ ⟨⟨G.le.ex, fun n a ha => ?_⟩, G.keep, G.fresh, fun a ha => G.newA a (List.mem_of_mem_take ha), G.track⟩ ?_
    · have z := W'.cel n c a (take_get hS).1 (take_get hA).1
      have fc : flatC c = true := List.all_eq_true.mp hc.2 c (List.mem_of_getElem? hS)
      cases c with
      | ins _ _ => exact z
      | lst xs =>
        obtain ⟨us, z1, z2⟩ := z
        exact ⟨us, z1, flt_Rs fc z2⟩
    · rw [List.getElem?_take, if_pos (by rw [← hl]; exact (List.getElem?_eq_some_iff.mp ha).1)]
      exact G.le.pre n a ha
    · cases rv with
      | val d => exact noCel_R _ _ hc.1 hr
      | own xs =>
        obtain ⟨a, us, h1, h2, h3, h4, h5, h6⟩ := hr
        exact ⟨a, us, h1, h2, fun q => h3 (List.mem_of_mem_take q), h4, h5, noCel_Rs _ _ hc.1 h6⟩
      | owd ks ds =>
        obtain ⟨a, us, h1, h2, h3, h4, h5, h6, h7⟩ := hr
        exact ⟨a, us, h1, h2, fun q => h3 (List.mem_of_mem_take q), h4, h5, h6, noCel_Rs _ _ hc.1 h7⟩
      | ow2 t xss => exact hr
theorem def0_trim {x : Str} {k : Nat} {ps : List Str} {m : MF} (D : Def0 prog w K mg base x k ps m) : Def0 prog w K mg base x k ps (mTrim m) := by
  obtain ⟨f, fd, h1, h2, h3, h4, h5⟩ := D.ex
  exact ⟨f, fd, h1, h2, h3, ⟨fun vs H Q E h => h4.len vs H Q E (sp_trim h), fun A outer s H args us vs Q E hr he hb hv h => h4.run A outer s H args us vs Q E hr he hb hv (sp_trim h)⟩, h5⟩
end
end Thr
namespace Thr
open PySem PySem.Spec PyProof.Rows L2 RZ

/-! ### sorted(xs), xs a list of tuples of texts and ints -/
abbrev KT := Int ⊕ List Nat
/-- the items of a tuple, each of the kind that its place says -/
def keyS : List Bool → List D → Option (List KT)
  | [], [] => some []
  | true :: sh, .str s :: r => match keyS sh r with
    | some l => some (Sum.inr s :: l)
    | none => none
  | false :: sh, .int i :: r => match keyS sh r with
    | some l => some (Sum.inl i :: l)
    | none => none
  | _, _ => none
def shOf : List D → List Bool
  | .str _ :: r => true :: shOf r
  | .int _ :: r => false :: shOf r
  | _ => []
def ltK : List KT → List KT → Bool
  | [], [] => false
  | [], _ :: _ => true
  | _ :: _, [] => false
  | .inl a :: r, .inl b :: t => decide (a < b) || (!decide (b < a) && ltK r t)
  | .inl _ :: _, .inr _ :: _ => true
  | .inr _ :: _, .inl _ :: _ => false
  | .inr a :: r, .inr b :: t => Spec.ltCps a b || (!Spec.ltCps b a && ltK r t)
theorem ltK_eq : ∀ a b : List KT, ltK a b = lexLt itemOrd a b
  | [], [] => rfl
  | [], _ :: _ => rfl
  | _ :: _, [] => rfl
  | .inl a :: r, .inl b :: t => by
    rw [lex_cons, ← ltK_eq r t]; rfl
  | .inl _ :: _, .inr _ :: _ => by rw [lex_cons]; rfl
  | .inr _ :: _, .inl _ :: _ => by rw [lex_cons]; simp [ltK, itemOrd, itemLt]
  | .inr a :: r, .inr b :: t => by
    rw [lex_cons, ← ltK_eq r t]
    show (Spec.ltCps a b || (!Spec.ltCps b a && ltK r t)) = (decide (a < b) || (!decide (b < a) && ltK r t))
    have h (x y : List Nat) : Spec.ltCps x y = decide (x < y) := ltCps_eq ..
    rw [h, h]
abbrev Rw := List KT × D
def insT (x : Rw) : List Rw → List Rw
  | [] => [x]
  | y :: r => if ltK y.1 x.1 = true then y :: insT x r else x :: y :: r
def srtT : List Rw → List Rw
  | [] => []
  | x :: r => insT x (srtT r)
theorem insT_perm (x : Rw) : ∀ l, (insT x l).Perm (x :: l)
  | [] => List.Perm.refl _
  | y :: r => by
    unfold insT
    split
    · exact ((insT_perm x r).cons y).trans (List.Perm.swap x y r)
    · exact List.Perm.refl _
theorem srtT_perm : ∀ l, (srtT l).Perm l
  | [] => List.Perm.refl _
  | x :: r => (insT_perm x _).trans ((srtT_perm r).cons x)
def leK (a b : List KT) : Prop := ltK b a = false
theorem leK_of {a b : List KT} (h : ltK a b = true) : leK a b := by
  unfold leK; rw [ltK_eq] at *
  exact KeyOrd.klt_asymm (O := listOrd itemOrd) h
theorem leK_trans {a b c : List KT} (h : leK a b) (h' : leK b c) : leK a c := by
  unfold leK at *; rw [ltK_eq] at *
  exact KeyOrd.kle_trans (O := listOrd itemOrd) h h'
theorem leK_anti {a b : List KT} (h : leK a b) (h' : leK b a) : a = b := by
  unfold leK at *; rw [ltK_eq] at *
  exact lex_total (O := itemOrd) a b h' h
theorem leK_refl (a : List KT) : leK a a := by unfold leK; rw [ltK_eq]; exact lex_irrefl (O := itemOrd) a
theorem insT_pw (x : Rw) : ∀ l : List Rw, l.Pairwise (fun a b => leK a.1 b.1) → (insT x l).Pairwise (fun a b => leK a.1 b.1)
  | [], _ => by simp [insT]
  | y :: r, h => by
    obtain ⟨h1, h2⟩ := List.pairwise_cons.mp h
    unfold insT
    split
    · rename_i hc
      refine List.pairwise_cons.mpr ⟨fun z hz => ?_, insT_pw x r h2⟩
      rcases List.mem_cons.mp ((insT_perm x r).mem_iff.mp hz) with q | q
      · rw [q]; exact leK_of hc
      · exact h1 z q
    · rename_i hc
      have hc' : leK x.1 y.1 := by simpa [leK] using hc
      refine List.pairwise_cons.mpr ⟨fun z hz => ?_, h⟩
      rcases List.mem_cons.mp hz with q | q
      · rw [q]; exact hc'
      · exact leK_trans hc' (h1 z q)
theorem srtT_pw : ∀ l : List Rw, (srtT l).Pairwise (fun a b => leK a.1 b.1)
  | [] => List.Pairwise.nil
  | x :: r => insT_pw x _ (srtT_pw r)
/-- the rows with their keys -/
def rowsT (sh : List Bool) : List D → Option (List Rw)
  | [] => some []
  | .tup xs :: r => match keyS sh xs, rowsT sh r with
    | some k, some l => some ((k, .tup xs) :: l)
    | _, _ => none
  | _ :: _ => none
def shOfL : List D → List Bool
  | .tup xs :: _ => shOf xs
  | _ => [true]
def fSortT : List D → Option RV
  | [d] => (lstOf d).bind fun xs => match shOfL xs with
    | [] => none
    | b :: sh => (rowsT (b :: sh) xs).bind fun l => some (.own ((srtT l).map (·.2)))
  | _ => none
/-! values -/
def keyVs : List Bool → List V → Option (List KT)
  | [], [] => some []
  | true :: sh, .str s :: r => match keyVs sh r with
    | some l => some (Sum.inr s.cps.toList :: l)
    | none => none
  | false :: sh, .int i :: r => match keyVs sh r with
    | some l => some (Sum.inl i :: l)
    | none => none
  | _, _ => none
theorem keyVs_items {sh0 : List Bool} : ∀ (i : Nat) (sh : List Bool) (vs : List V) (its : List Value) (l : List KT), sh0.drop i = sh → Vals vs its → keyVs sh vs = some l → tupItems (fun j => sh0.getD j false) i its = some l
  | i, [], [], its, l, hd, r, h => by
    cases r
    unfold keyVs at h; cases h
    rfl
  | i, [], _ :: _, its, l, hd, r, h => by unfold keyVs at h; cases h
  | i, b :: sh, [], its, l, hd, r, h => by cases b <;> (unfold keyVs at h; cases h)
  | i, b :: sh, v :: vs, its, l, hd, r, h => by
    have hb : sh0.getD i false = b := by
      have : (sh0.drop i)[0]? = some b := by rw [hd]; rfl
      rw [List.getElem?_drop] at this
      rw [List.getD_eq_getElem?_getD]
      simp only [Nat.add_zero] at this
      rw [this]; rfl
    have hd' : sh0.drop (i + 1) = sh := by
      have := congrArg List.tail hd
      rw [List.tail_drop] at this
      exact this
    cases r with
    | @cons _ u _ us ru t =>
      cases b with
      | true =>
        cases v with
        | str s =>
          unfold keyVs at h
          cases z : keyVs sh vs with
          | none => rw [z] at h; cases h
          | some l' =>
            rw [z] at h; cases h
            have ih := keyVs_items (sh0 := sh0) (i + 1) sh vs us l' hd' t z
            obtain ⟨tk, rfl⟩ := ru
            simp only [tupItems, hb, if_true, ih, Option.map_some]
        | _ => unfold keyVs at h; cases h
      | false =>
        cases v with
        | int n =>
          unfold keyVs at h
          cases z : keyVs sh vs with
          | none => rw [z] at h; cases h
          | some l' =>
            rw [z] at h; cases h
            have ih := keyVs_items (sh0 := sh0) (i + 1) sh vs us l' hd' t z
            obtain ⟨tk, rfl⟩ := ru
            simp only [tupItems, hb, Bool.false_eq_true, if_false, ih, Option.map_some]
        | _ => unfold keyVs at h; cases h
abbrev RwV := List KT × V
def rSortTp (K : PySem.W.Frag) : List V → Hp → VK → Prop := fun vs H Q => ∃ (a : Addr) (l : List RwV) (b : Bool) (sh : List Bool), vs = [V.ref a] ∧ SqL K H a (l.map (·.2)) ∧
  (∀ x ∈ l, ∃ t us, x.2 = V.ref t ∧ SqT K H t us ∧ keyVs (b :: sh) us = some x.1) ∧
  ∀ (zs : List RwV) (p : Addr), zs.Perm l → zs.Pairwise (fun x y => leK x.1 y.1) → H p = none → Q (.ref p) (upd H p (.lst (zs.map (·.2))))
section
variable {X : Cx}
theorem tupKeyC_of {h : Heap} {shape : Nat → Bool} {a : Addr} {o : Obj} {xs : Array Value} {n : Nat} {l : List (Int ⊕ List Nat)} (ho : h.get? a = some o) (hc : o.cls = .type "tuple") (hd : o.data = .seq xs n) (hi : tupItems shape 0 xs.toList = some l) : G.tupKeyC h shape (.ref a) = some l := by
  unfold G.tupKeyC
  have e1 : G.isTupObj h (.ref a) = true := by simp [G.isTupObj, ho, hc]
  rw [if_pos e1]
  simp only [tupKey, ho, hd]
  exact hi
theorem keyOf_at {pins : List (Addr × Obj)} {σ : L2.St} {H : Hp} {s : Shared} (I : Inv X pins σ H s) {t : Addr} {us : List V} {sh : List Bool} {l : List KT} (h : SqT X.K H t us) (e : keyVs sh us = some l) : G.tupKeyC s.heap (fun j => sh.getD j false) (.ref t) = some l ∧ ∃ its, Vals us its ∧ IsTup s.heap t its.toArray := by
  obtain ⟨its, rv, ht, _⟩ := I.tuple h
  have ht' := ht
  obtain ⟨o, ho, hc, n, hd⟩ := ht'
  refine ⟨tupKeyC_of ho hc hd ?_, its, rv, ht⟩
  rw [List.toList_toArray]
  exact keyVs_items 0 sh us its l (by simp) rv e
theorem tups_of {h : Heap} {shape : Nat → Bool} : ∀ (us : List Value), (∀ u ∈ us, ∃ f, TupOf h shape u f) → ∃ fs, TupsOf h shape us fs
  | [], _ => ⟨[], .nil⟩
  | u :: us, k => by
    obtain ⟨f, hf⟩ := k u List.mem_cons_self
    obtain ⟨fs, hfs⟩ := tups_of us fun x m => k x (List.mem_cons_of_mem _ m)
    exact ⟨f :: fs, .cons hf hfs⟩
theorem cr_sortTp : CallR X (.builtin "sorted") (rSortTp X.K) := by
  intro pins s σ H vs us Q I r h
  obtain ⟨a, l, b, sh, rfl, hs, hx, q⟩ := h
  obtain ⟨its, rv, hl, hz⟩ := I.list hs
  rw [Vals.ref1 r]
  obtain ⟨e1, e2⟩ := bkV_refs rv fun x m => by
    obtain ⟨y, hy, rfl⟩ := List.mem_map.mp m
    obtain ⟨t, us, e, _⟩ := hx y hy
    exact ⟨t, e⟩
  have hlen0 : l.length = its.length := by have := rv.length; simpa using this
  have key : ∀ y ∈ l, ∀ v, y.2 = bkV v → (∃ t, v = Value.ref t) → ∃ t us, v = Value.ref t ∧ SqT X.K H t us ∧ keyVs (b :: sh) us = some y.1 := fun y hy v e hv => by
    obtain ⟨t, rfl⟩ := hv
    obtain ⟨t', us, e', ht, hk⟩ := hx y hy
    rw [e] at e'
    cases e'
    exact ⟨t, us, rfl, ht, hk⟩
  let kf : Value → RwV := fun v => ((G.tupKeyC s.heap (fun j => (b :: sh).getD j false) v).getD [], bkV v)
  have el : l = its.map kf := by
    refine List.ext_getElem (by simpa using hlen0) fun n h1 h2 => ?_
    have hn : n < its.length := by omega
    have hv := e2 its[n] (List.getElem_mem hn)
    have e3 : l[n].2 = bkV its[n] := by
      have := congrArg (fun z => z[n]?) e1
      simpa [h1, hn] using this
    obtain ⟨t, us, ev, ht, hk⟩ := key l[n] (List.getElem_mem h1) its[n] e3 hv
    rw [List.getElem_map]
    refine Prod.ext ?_ e3
    show l[n].1 = (G.tupKeyC s.heap _ its[n]).getD []
    rw [ev, (keyOf_at I ht hk).1]; rfl
  have fnd : ∀ v ∈ its, ∃ y ∈ l, y.2 = bkV v := fun v hv => ⟨kf v, by rw [el]; exact List.mem_map.mpr ⟨v, hv, rfl⟩, rfl⟩
  have kc : ∀ v ∈ its, ∃ t us k, v = Value.ref t ∧ SqT X.K H t us ∧ keyVs (b :: sh) us = some k := fun v hv => by
    obtain ⟨y, hy, e⟩ := fnd v hv
    obtain ⟨t, us, h1, h2, h3⟩ := key y hy v e (e2 v hv)
    exact ⟨t, us, y.1, h1, h2, h3⟩
  obtain ⟨fs, hfs⟩ := tups_of (h := s.heap) (shape := fun j => (b :: sh).getD j false) its fun v hv => by
    obtain ⟨t, us, k, rfl, ht, hk⟩ := kc v hv
    obtain ⟨_, uts, ru, o, ho, hc, n, hd⟩ := keyOf_at I ht hk
    cases us with
    | nil => cases b <;> (unfold keyVs at hk; cases hk)
    | cons u us =>
      cases ru with
      | @cons _ w _ ws r0 rt =>
        refine ⟨w, t, o, _, n, rfl, ho, hc, hd, by simp, fun e => ?_, fun e => ?_⟩
        · have eb : b = false := e
          subst eb
          cases u with
          | int i => obtain ⟨tk, rfl⟩ := r0; exact ⟨_, _, rfl⟩
          | _ => unfold keyVs at hk; cases hk
        · have eb : b = true := e
          subst eb
          cases u with
          | str i => obtain ⟨tk, rfl⟩ := r0; exact ⟨_, _, rfl⟩
          | _ => unfold keyVs at hk; cases hk
  refine G.sorted_tups (shape := fun j => (b :: sh).getD j false) hl.isList hfs (fun v hv => by
    obtain ⟨t, us, k, rfl, ht, hk⟩ := kc v hv
    exact ⟨_, (keyOf_at I ht hk).1⟩) (by rw [← hlen0, ← List.length_map (f := (·.2))]; exact hz) fun st' hp hsd _ => ?_
  obtain ⟨ep, he'⟩ := PyProof.Rows.sortedAll_at s.heap its ((arrOf st').map (·.2))
  have hpl : (arrOf st').toList.Perm (its.zip its) := by
    have e := Array.perm_iff_toList_perm.mp hp
    rw [pairsOf_toList] at e
    exact e
  have hout : ((arrOf st').map (·.2)).toList.Perm its := by
    rw [Array.toList_map]
    refine (hpl.map (·.2)).trans ?_
    have : (its.zip its).map (·.2) = its := by
      rw [List.map_snd_zip]; exact Nat.le_refl _
    rw [this]
  have h3 : ∀ u ∈ ((arrOf st').map (·.2)).toList, ∃ a, u = Value.ref a := fun u hu => e2 u (hout.mem_iff.mp hu)
  have hp2 : (((arrOf st').map (·.2)).toList.map kf).Perm l := by
    rw [el]
    exact hout.map kf
  have em : (((arrOf st').map (·.2)).toList.map kf).map (·.2) = ((arrOf st').map (·.2)).toList.map bkV := by rw [List.map_map]; rfl
  have hlen : (((arrOf st').map (·.2)).toList.map bkV).length ≤ sizeLine := by
    rw [List.length_map, hout.length_eq, ← hlen0, ← List.length_map (f := (·.2))]
    exact hz
  have qq := q (((arrOf st').map (·.2)).toList.map kf) (s.heap.objs.size + 1) hp2 ?_ (I.hok.fresh (Nat.le_succ _))
  · rw [em] at qq
    exact ⟨.ref _, upd H (s.heap.objs.size + 1) (.lst (((arrOf st').map (·.2)).toList.map bkV)), I.laid (t' := s.toks) (fun _ _ => PyProof.Rows.sortedAll_old) (Nat.le_succ _) ⟨hlen, ((arrOf st').map (·.2)).toList, ep, bkV_vals h3, he'⟩, rfl, qq⟩
  rw [Array.toList_map, List.map_map, List.pairwise_map, List.pairwise_iff_getElem]
  intro i j hi hj hij
  have hsz : (arrOf st').size = (pairsOf its).size := hp.size_eq
  have hkl := hsd i j (Nat.le_of_lt hij) (by rw [← hsz]; simpa using hj)
  have kk : ∀ n (hn : n < (arrOf st').toList.length), KK (G.tupKindC s.heap (fun j => (b :: sh).getD j false)) (arrOf st') n = (kf (arrOf st').toList[n].2).1 := fun n hn => by
    have hm := mem_zip_self (hpl.mem_iff.mp (List.getElem_mem hn))
    have hn' : n < (arrOf st').size := by simpa using hn
    unfold KK
    rw [getElem?_pos (arrOf st') n hn']
    have e0 : (arrOf st')[n].1 = (arrOf st').toList[n].2 := by
      have := hm.1
      simpa using this
    show (G.tupKeyC s.heap _ (arrOf st')[n].1).getD [] = _
    rw [e0]
  rw [kk i hi, kk j hj] at hkl
  show leK _ _
  unfold leK
  rw [ltK_eq]
  exact hkl
end
/-! ### the mirror's side -/
theorem perm_lift {α β : Type} {f : α → β} {zs ys : List β} (p : zs.Perm ys) : ∀ T : List α, ys = T.map f → ∃ T' : List α, T'.Perm T ∧ T'.map f = zs := by
  induction p with
  | nil =>
    intro T e
    have : T = [] := by simpa using e.symm
    subst this
    exact ⟨[], List.Perm.refl _, rfl⟩
  | cons x p ih =>
    intro T e
    cases T with
    | nil => simp at e
    | cons t T =>
      simp only [List.map_cons, List.cons.injEq] at e
      obtain ⟨T', h1, h2⟩ := ih T e.2
      exact ⟨t :: T', h1.cons t, by rw [List.map_cons, h2, e.1]⟩
  | swap x y l =>
    intro T e
    match T, e with
    | t :: u :: T, e =>
      simp only [List.map_cons, List.cons.injEq] at e
      exact ⟨u :: t :: T, List.Perm.swap t u T, by simp [e.1, e.2.1, e.2.2]⟩
  | trans p1 p2 ih1 ih2 =>
    intro T e
    obtain ⟨T1, h1, h2⟩ := ih2 T e
    obtain ⟨T2, h3, h4⟩ := ih1 T1 h2.symm
    exact ⟨T2, h3.trans h1, h4⟩
theorem keyS_inj : ∀ {sh : List Bool} {xs ys : List D} {k : List KT}, keyS sh xs = some k → keyS sh ys = some k → xs = ys
  | [], [], [], _, _, _ => rfl
  | [], _ :: _, _, _, h, _ => by unfold keyS at h; cases h
  | [], [], _ :: _, _, _, h => by unfold keyS at h; cases h
  | b :: _, [], _, _, h, _ => by cases b <;> (unfold keyS at h; cases h)
  | b :: _, _ :: _, [], _, _, h => by cases b <;> (unfold keyS at h; cases h)
  | true :: sh, x :: xs, y :: ys, k, h, h' => by
    cases x with
    | str s =>
      cases y with
      | str t =>
        unfold keyS at h h'
        cases z : keyS sh xs with
        | none => rw [z] at h; cases h
        | some l =>
          cases z' : keyS sh ys with
          | none => rw [z'] at h'; cases h'
          | some l' =>
            rw [z] at h; rw [z'] at h'
            dsimp only at h h'
            rw [← h'] at h
            simp only [Option.some.injEq, List.cons.injEq, Sum.inr.injEq] at h
            obtain ⟨e1, e2⟩ := h
            subst e1; subst e2
            rw [keyS_inj z z']
      | _ => unfold keyS at h'; cases h'
    | _ => unfold keyS at h; cases h
  | false :: sh, x :: xs, y :: ys, k, h, h' => by
    cases x with
    | int s =>
      cases y with
      | int t =>
        unfold keyS at h h'
        cases z : keyS sh xs with
        | none => rw [z] at h; cases h
        | some l =>
          cases z' : keyS sh ys with
          | none => rw [z'] at h'; cases h'
          | some l' =>
            rw [z] at h; rw [z'] at h'
            dsimp only at h h'
            rw [← h'] at h
            simp only [Option.some.injEq, List.cons.injEq, Sum.inl.injEq] at h
            obtain ⟨e1, e2⟩ := h
            subst e1; subst e2
            rw [keyS_inj z z']
      | _ => unfold keyS at h'; cases h'
    | _ => unfold keyS at h; cases h
theorem keyS_vs {K : PySem.W.Frag} {F : Hp} {A : List Addr} : ∀ {sh : List Bool} {xs : List D} {vs : List V} {k : List KT}, keyS sh xs = some k → Rs K F A xs vs → keyVs sh vs = some k
  | [], [], vs, k, h, r => by
    rw [Rs_nil] at r; subst r
    exact h
  | [], _ :: _, _, _, h, _ => by unfold keyS at h; cases h
  | b :: _, [], _, _, h, _ => by cases b <;> (unfold keyS at h; cases h)
  | true :: sh, x :: xs, vs, k, h, r => by
    obtain ⟨v, r', rfl, h1, h2⟩ := Rs_cons.mp r
    cases x with
    | str s =>
      rw [R_str] at h1; subst h1
      unfold keyS at h
      cases z : keyS sh xs with
      | none => rw [z] at h; cases h
      | some l =>
        rw [z] at h
        have ih := keyS_vs z h2
        unfold keyVs
        rw [ih, mkS_toList]
        exact h
    | _ => unfold keyS at h; cases h
  | false :: sh, x :: xs, vs, k, h, r => by
    obtain ⟨v, r', rfl, h1, h2⟩ := Rs_cons.mp r
    cases x with
    | int s =>
      rw [R_int] at h1; subst h1
      unfold keyS at h
      cases z : keyS sh xs with
      | none => rw [z] at h; cases h
      | some l =>
        rw [z] at h
        have ih := keyS_vs z h2
        unfold keyVs
        rw [ih]
        exact h
    | _ => unfold keyS at h; cases h
structure Rw3 where
  k : List KT
  d : D
  v : V
theorem rows3 {K : PySem.W.Frag} {F : Hp} {A : List Addr} {sh : List Bool} : ∀ {xs : List D} {vs : List V} {l : List Rw}, rowsT sh xs = some l → Rs K F A xs vs →
    ∃ T : List Rw3, T.map (fun t => ((t.k, t.d) : Rw)) = l ∧ T.map (·.v) = vs ∧ ∀ t ∈ T, R K F A t.d t.v ∧ ∃ ys, t.d = .tup ys ∧ keyS sh ys = some t.k
  | [], vs, l, h, r => by
    rw [Rs_nil] at r; subst r
    unfold rowsT at h; cases h
    exact ⟨[], rfl, rfl, fun t h => absurd h (by simp)⟩
  | x :: xs, vs, l, h, r => by
    obtain ⟨v, r', rfl, h1, h2⟩ := Rs_cons.mp r
    cases x with
    | tup ys =>
      unfold rowsT at h
      cases z : keyS sh ys with
      | none => rw [z] at h; cases h
      | some k =>
        cases z' : rowsT sh xs with
        | none => rw [z, z'] at h; cases h
        | some l' =>
          rw [z, z'] at h; cases h
          obtain ⟨T, e1, e2, e3⟩ := rows3 z' h2
          refine ⟨⟨k, .tup ys, v⟩ :: T, by rw [List.map_cons, e1], by rw [List.map_cons, e2], fun t ht => ?_⟩
          rcases List.mem_cons.mp ht with q | q
          · subst q; exact ⟨h1, ys, rfl, z⟩
          · exact e3 t q
    | _ => unfold rowsT at h; cases h
theorem Rs_of3 {K : PySem.W.Frag} {F : Hp} {A : List Addr} : ∀ (T : List Rw3), (∀ t ∈ T, R K F A t.d t.v) → Rs K F A (T.map (·.d)) (T.map (·.v))
  | [], _ => Rs_nil.mpr rfl
  | t :: T, h => Rs_cons.mpr ⟨t.v, T.map (·.v), rfl, h t List.mem_cons_self, Rs_of3 T fun u m => h u (List.mem_cons_of_mem _ m)⟩
section
variable {C : Ctx}
theorem hr_sortT : ∀ X, Lc C X → CallR X (.builtin "sorted") (rSortTp C.K) := fun X L => by
  have := cr_sortTp (X := X)
  rw [L.K] at this
  exact this
theorem cl_sortT : CallS C (rSortTp C.K) fSortT := by
  intro ρ S σ g ds vs rv Q st r e k
  unfold fSortT at e
  split at e
  · rename_i d
    obtain ⟨v, rfl, rn⟩ := p1 r
    cases e0 : lstOf d with
    | none => rw [e0] at e; cases e
    | some xs =>
      rw [e0] at e
      obtain ⟨a, us, rfl, h1, h2⟩ := rn_lo st rn e0
      cases e1 : shOfL xs with
      | nil =>
        have e' : (match shOfL xs with
          | [] => none
          | b :: sh => (rowsT (b :: sh) xs).bind fun l => some (RV.own ((srtT l).map (·.2)))) = some rv := e
        rw [e1] at e'; cases e'
      | cons b sh =>
        have e' : (match shOfL xs with
          | [] => none
          | b :: sh => (rowsT (b :: sh) xs).bind fun l => some (RV.own ((srtT l).map (·.2)))) = some rv := e
        rw [e1] at e'
        dsimp only at e'
        cases e2 : rowsT (b :: sh) xs with
        | none => rw [e2] at e'; cases e'
        | some l =>
          rw [e2] at e'
          have e3 : some (RV.own ((srtT l).map (·.2))) = some rv := e'
          cases e3
          obtain ⟨T, t1, t2, t3⟩ := rows3 e2 h2
          subst t1; subst t2
          refine ⟨a, T.map (fun t => (t.k, t.v)), b, sh, rfl, by rw [List.map_map]; exact h1, fun x hx => ?_, fun zs p pm pw hp => ?_⟩
          · obtain ⟨t, ht, rfl⟩ := List.mem_map.mp hx
            obtain ⟨r1, ys, ed, hk⟩ := t3 t ht
            rw [ed] at r1
            obtain ⟨ad, ws, ev, q1, q2⟩ := R_tup.mp r1
            exact ⟨ad, ws, ev, st.wd.sub.t q1, keyS_vs hk q2⟩
          · obtain ⟨T', p1, p2⟩ := perm_lift pm T rfl
            have hm : ∀ t ∈ T', R C.K g.F g.A t.d t.v := fun t ht => (t3 t (p1.mem_iff.mp ht)).1
            have eq : T'.map (fun t => ((t.k, t.d) : Rw)) = srtT (T.map (fun t => ((t.k, t.d) : Rw))) := by
              refine List.Perm.eq_of_pairwise (le := fun a b : Rw => leK a.1 b.1) (fun x y hx hy h1 h2 => ?_) ?_ (srtT_pw _) ((p1.map _).trans (srtT_perm _).symm)
              · obtain ⟨t, ht, rfl⟩ := List.mem_map.mp hx
                obtain ⟨u, hu, rfl⟩ := List.mem_map.mp ((srtT_perm _).mem_iff.mp hy)
                have ek : t.k = u.k := leK_anti h1 h2
                obtain ⟨_, y1, d1, k1⟩ := t3 t (p1.mem_iff.mp ht)
                obtain ⟨_, y2, d2, k2⟩ := t3 u hu
                rw [ek] at k1
                have := keyS_inj k1 k2
                show (t.k, t.d) = (u.k, u.d)
                rw [ek, d1, d2, this]
              · rw [List.pairwise_map]
                rw [← p2, List.pairwise_map] at pw
                exact pw
            have ev : zs.map (·.2) = T'.map (·.v) := by rw [← p2, List.map_map]; rfl
            have ed : (srtT (T.map (fun t => ((t.k, t.d) : Rw)))).map (·.2) = T'.map (·.d) := by rw [← eq, List.map_map]; rfl
            rw [ev]
            refine k (.ref p) _ (st.priv hp) (Stt.le_pv hp) ?_
            rw [ed]
            exact own_new st hp (Rs_of3 T' hm)
  · cases e
end
end Thr
namespace Thr
open PySem PySem.Spec PyProof.Rows L2 RZ

/-! ### x[k].append(e), x a list of lists of one's own -/
def sApp2 (i k : Nat) (m : M D) : M Fl := fun ρ S => match ρ[i]? with
  | some (.ow2 false xss) => (match xss[k]? with
    | some xs => if xs.length < 10000000 then (match m (ρ.set i .un) S with
      | .ok d ρ1 S1 => if i < ρ1.length then .ok .nx (ρ1.set i (.ow2 false (xss.set k (xs ++ [d])))) S1 else .bad
      | _ => .bad) else .bad
    | none => .bad)
  | _ => .bad
theorem inner_get {K : PySem.W.Frag} {F : Hp} {A : List Addr} {H : Hp} : ∀ {as : List Addr} {xss : List (List D)} {k : Nat} {xs : List D}, Inner K F A H as xss → xss[k]? = some xs → ∃ b vs, as[k]? = some b ∧ H b = some (.lst vs) ∧ Rs K F A xs vs
  | [], xss, k, xs, h, e => by
    have h' : xss = [] := h
    rw [h'] at e; simp at e
  | a :: as, xss, 0, xs, h, e => by
    obtain ⟨ys, r, rfl, ⟨vs, h1, h2⟩, h3⟩ := h
    simp at e; subst e
    exact ⟨a, vs, rfl, h1, h2⟩
  | a :: as, xss, k + 1, xs, h, e => by
    obtain ⟨ys, r, rfl, _, h3⟩ := h
    simp at e
    obtain ⟨b, vs, q1, q2, q3⟩ := inner_get h3 e
    exact ⟨b, vs, by simpa using q1, q2, q3⟩
theorem inner_set {K : PySem.W.Frag} {F : Hp} {A : List Addr} {H H' : Hp} {ys : List D} {ws : List V} : ∀ {as : List Addr} {xss : List (List D)} {k : Nat} {b : Addr}, Inner K F A H as xss → as.Nodup → as[k]? = some b → (∀ x, x ∈ as → x ≠ b → ∀ u, H x = some u → H' x = some u) → H' b = some (.lst ws) → Rs K F A ys ws → Inner K F A H' as (xss.set k ys)
  | [], xss, k, b, h, _, e, _, _, _ => by simp at e
  | a :: as, xss, 0, b, h, nd, e, kp, hb, r => by
    obtain ⟨zs, t, rfl, _, h3⟩ := h
    simp at e; subst e
    have nd' := List.nodup_cons.mp nd
    exact ⟨ys, t, rfl, ⟨ws, hb, r⟩, Inner_mono (Le.refl _ _) _ _ (fun x hx u hu => kp x (List.mem_cons_of_mem _ hx) (fun z => nd'.1 (z ▸ hx)) u hu) h3⟩
  | a :: as, xss, k + 1, b, h, nd, e, kp, hb, r => by
    obtain ⟨zs, t, rfl, ⟨vs, q1, q2⟩, h3⟩ := h
    have nd' := List.nodup_cons.mp nd
    have e' : as[k]? = some b := by simpa using e
    have hne : a ≠ b := fun z => nd'.1 (z ▸ List.mem_of_getElem? e')
    exact ⟨zs, t.set k ys, rfl, ⟨vs, kp a List.mem_cons_self hne _ q1, q2⟩, inner_set h3 nd'.2 e' (fun x hx => kp x (List.mem_cons_of_mem _ hx)) hb r⟩
section
variable {C : Ctx} {e : Expr} {pos spos p1 p2 : Pos} {x : Str} {j : Nat}
theorem ds_app2 {m : M D} {name : Str} {apos : Pos} {k : Nat} {kk : Expr} (i : Nat) (hi : C.N[i]? = some x := by rfl) (hv : Vis C.sc x := by first | exact Or.inl rfl | exact Or.inr (Or.inl rfl) | exact Or.inr (Or.inr rfl)) (hd : (x == ("__debug__" : Str)) = false := by decide +kernel) (hcd : (x == ("__classdict__" : Str)) = false := by decide +kernel)
    (hkk : ∀ X : Cx, Lc C X → PE X kk (tC (.int (k : Nat)))) (hix : PlainIx kk := by intros _ _; rfl) (hn : name = "append" := by rfl) (he : DE C e m)
    (hb : ∀ X : Cx, attributeBase (.Subscript (.Name x p1) kk p2) name X.env (eval (.Subscript (.Name x p1) kk p2) X.env) = eval (.Subscript (.Name x p1) kk p2) X.env := by intros; rfl)
    (hf : ∀ X : Cx, ((backTo pos (starEach [e] X.env)).all (fun x => !x.1) && (backToKw pos (keywordEach [] X.env)).all (fun x => x.1.isSome) && decide ([e].length + ([] : List Keyword).length + (if ([] : List Keyword).isEmpty then 0 else 1) < 30)) = true := by intros; rfl)
    (hl : (apos.endLine == pos.line) = true := by rfl) (hs : ∀ X : Cx, starEach [e] X.env = (false, eval e X.env) :: starEach [] X.env := by intros; rfl) (hp : ∀ X : Cx, (backTo pos (starEach [] X.env)).any (·.1) = false := by intros; rfl)
    (hs2 : ∀ X : Cx, swapsWith (.Call (.Attribute (.Subscript (.Name x p1) kk p2) name apos) [e] [] pos) none spos.line X.env = pure false := by intros; rfl) :
    DS C (.Expr (.Call (.Attribute (.Subscript (.Name x p1) kk p2) name apos) [e] [] pos) spos) (sApp2 i k m) := by
  subst hn
  obtain ⟨t, ht, s1⟩ := he
  refine ⟨tDrop (tBM C.K "list" rAppend (tOp (rIx C.K) (tVar i) (tC (.int (k : Nat)))) (tCons t tNil)), fun X L => ps_expr ?_ (hs2 X), fun ρ S σ g Dn st h => ?_⟩
  · have hsub := pe_ix (a := .Name x p1) (pos := p2) (ix_seq (X := X)) (pe_var (by rw [L.N]; exact hi) (by rw [L.sc]; exact hv) hd hcd) (hkk X L) hix
    have := pe_bm PySem.F.plainAttrs_list PySem.F.slot_list_append PySem.F.type_list_append mt_append hsub (pa_cons (ht X L) pa_nil (hs X)) (hb X) (hf X) hl (hs X) (hp X)
    rw [L.K] at this
    exact this
  · unfold sApp2 at h
    cases e0 : ρ[i]? with
    | none => rw [e0] at h; exact h.elim
    | some sl =>
      rw [e0] at h
      cases sl with
      | ow2 b xss =>
        cases b with
        | true => exact h.elim
        | false =>
          dsimp only at h
          cases e1 : xss[k]? with
          | none => rw [e1] at h; exact h.elim
          | some xs =>
            rw [e1] at h
            dsimp only at h
            by_cases hz : xs.length < 10000000
            rotate_left
            · rw [if_neg hz] at h; exact h.elim
            rw [if_pos hz] at h
            have hi' : i < ρ.length := (List.getElem?_eq_some_iff.mp e0).1
            have s0 := st.at_ i _ e0
            obtain ⟨a, as, hP, nd, ho, hH, hin⟩ := s0
            have hσ : σ[i]? = some (some (.ref a)) := by
              cases q : σ[i]? with
              | none => rw [q] at ho; cases ho
              | some o => rw [q] at ho; exact congrArg some ho
            obtain ⟨b, vs, k1, k2, k3⟩ := inner_get hin e1
            have nd' := List.nodup_cons.mp nd
            have hlen : (as.map V.ref).length = xss.length := by rw [List.length_map]; exact inner_len hin
            have hk : k < xss.length := (List.getElem?_eq_some_iff.mp e1).1
            refine ⟨.ref a, hσ, .inl ⟨a, as.map V.ref, (k : Nat), .ref b, rfl, rfl, SqL.of hH, atI_D (by
              unfold atD
              rw [if_pos (by omega), Int.toNat_natCast, List.getElem?_map, k1]; rfl), ?_⟩⟩
            refine ⟨.inl ⟨rfl, vs, SqL.of k2⟩, ?_⟩
            show t σ g.H fun y H2 => tNil σ H2 fun ys H3 => rAppend (.ref b) (y :: ys) H3 _
            have stf := st.forget i
            refine s1 (ρ.set i .un) S σ ⟨g.F, g.A, g.H, fun j => if j = i then [] else g.P j⟩ _ stf ?_
            have fr : ∀ z, z ∈ a :: as → Free C ⟨g.F, g.A, g.H, fun j => if j = i then [] else g.P j⟩ z := fun z hz2 => by
              have hz3 : z ∈ g.P i := by rw [hP]; exact hz2
              refine ⟨st.pr i z hz3, fun j hj => ?_⟩
              have hj' : z ∈ (if j = i then [] else g.P j) := hj
              by_cases hji : j = i
              · rw [if_pos hji] at hj'; simp at hj'
              · rw [if_neg hji] at hj'
                exact hji (st.dis j i z hj' hz3)
            cases e2 : m (ρ.set i .un) S with
            | exc x ρ1 S1 => rw [e2] at h; exact h.elim
            | bad => rw [e2] at h; exact h.elim
            | ok d ρ1 S1 =>
              rw [e2] at h
              dsimp only at h
              by_cases hi2 : i < ρ1.length
              rotate_left
              · rw [if_neg hi2] at h; exact h.elim
              rw [if_pos hi2] at h
              intro u g2 st2 le2 r2
              have bmem : b ∈ as := List.mem_of_getElem? k1
              obtain ⟨hb2, fb2⟩ := le2.kp b _ (fr b (List.mem_cons_of_mem _ bmem)) k2
              obtain ⟨ha2, fa2⟩ := le2.kp a _ (fr a List.mem_cons_self) hH
              have r3 : Rs C.K g2.F g2.A (xs ++ [d]) (vs ++ [u]) := Rs_append (Rs_mono le2.le _ _ k3) (Rs_one r2)
              have st3 := st2.alterF (o := .lst (vs ++ [u])) hb2 fb2
              have hab : a ≠ b := fun z => nd'.1 (z ▸ bmem)
              have in2 : Inner C.K g2.F g2.A g2.H as xss := Inner_mono le2.le _ _ (fun z hz2 w hw => (le2.kp z w (fr z (List.mem_cons_of_mem _ hz2)) hw).1) hin
              have in3 : Inner C.K g2.F g2.A (upd g2.H b (.lst (vs ++ [u]))) as (xss.set k (xs ++ [d])) := inner_set in2 nd'.2 k1 (fun z _ hzb w hw => by rw [upd_ne hzb]; exact hw) upd_same r3
              have sl3 : SlR C (g2.pv b (.lst (vs ++ [u]))).F (g2.pv b (.lst (vs ++ [u]))).A (g2.pv b (.lst (vs ++ [u]))).H (.ow2 false (xss.set k (xs ++ [d]))) (some (.ref a)) (a :: as) := by
                refine ⟨a, as, rfl, nd, rfl, ?_, in3⟩
                show upd g2.H b _ a = _
                rw [upd_ne hab]; exact ha2
              have th := Inner_there _ _ hin
              have st4 := st3.put hi2 sl3 (fun z hz2 => by
                have fz : Free C g2 z := by
                  rcases List.mem_cons.mp hz2 with q | q
                  · rw [q]; exact fa2
                  · obtain ⟨w, hw⟩ := th z q
                    exact (le2.kp z w (fr z (List.mem_cons_of_mem _ q)) hw).2
                exact ⟨fz.1, fun j _ => fz.2 j⟩)
              rw [List.set_self σ i _ hσ] at st4
              exact ⟨b, vs, u, rfl, rfl, hb2, by rw [← Rs_len k3]; exact cap_lt hz, h σ _ st4 le2.le⟩
      | _ => exact h.elim
theorem kk_int {k : Nat} {kp : Pos} : ∀ X : Cx, Lc C X → PE X (.Constant (.int (k : Nat)) j kp) (tC (.int (k : Nat))) := fun X L => pe_int
end
end Thr
namespace Thr
open PySem PySem.Spec PyProof.Rows L2 RZ

/-! ### for y in x: y.append(c), x a list of lists of one's own, c a constant -/
def sForApp (i j : Nat) (d : D) : M Fl := fun ρ S => match ρ[i]? with
  | some (.ow2 false xss) => if (decide (i ≠ j) && decide (j < ρ.length) && xss.all fun xs => decide (xs.length < 10000000)) = true then .ok .nx ((ρ.set i (.ow2 false (xss.map fun xs => xs ++ [d]))).set j .un) S else .bad
  | _ => .bad
def appF (d : D) (k : Nat) (xss : List (List D)) : List (List D) := (xss.take k).map (fun xs => xs ++ [d]) ++ xss.drop k
theorem appF_zero (d : D) (xss : List (List D)) : appF d 0 xss = xss := by simp [appF]
theorem appF_all (d : D) (xss : List (List D)) : appF d xss.length xss = xss.map fun xs => xs ++ [d] := by simp [appF]
theorem appF_get {d : D} {k : Nat} {xss : List (List D)} {xs : List D} (h : xss[k]? = some xs) : (appF d k xss)[k]? = some xs := by
  have hk : k < xss.length := (List.getElem?_eq_some_iff.mp h).1
  unfold appF
  rw [List.getElem?_append_right (by rw [List.length_map, List.length_take]; omega), List.length_map, List.length_take, Nat.min_eq_left (Nat.le_of_lt hk), Nat.sub_self, List.getElem?_drop, Nat.add_zero]
  exact h
theorem appF_set {d : D} {k : Nat} {xss : List (List D)} {xs : List D} (h : xss[k]? = some xs) : (appF d k xss).set k (xs ++ [d]) = appF d (k + 1) xss := by
  have hk : k < xss.length := (List.getElem?_eq_some_iff.mp h).1
  have e : xs = xss[k] := by rw [List.getElem?_eq_getElem hk] at h; exact (Option.some.inj h).symm
  refine List.ext_getElem? fun n => ?_
  unfold appF
  rw [List.getElem?_set]
  by_cases hn : k = n
  · subst hn
    rw [if_pos rfl, if_pos (by simp; omega), List.getElem?_append_left (by rw [List.length_map, List.length_take]; omega), List.getElem?_map, List.getElem?_take, if_pos (by omega), List.getElem?_eq_getElem hk, ← e]
    rfl
  · rw [if_neg hn]
    by_cases hl : n < k
    · rw [List.getElem?_append_left (by rw [List.length_map, List.length_take]; omega), List.getElem?_append_left (by rw [List.length_map, List.length_take]; omega), List.getElem?_map, List.getElem?_map, List.getElem?_take, List.getElem?_take, if_pos hl, if_pos (by omega)]
    · rw [List.getElem?_append_right (by rw [List.length_map, List.length_take]; omega), List.getElem?_append_right (by rw [List.length_map, List.length_take]; omega), List.getElem?_drop, List.getElem?_drop, List.length_map, List.length_map, List.length_take, List.length_take, Nat.min_eq_left (Nat.le_of_lt hk), Nat.min_eq_left (by omega)]
      congr 1; omega
section
variable {C : Ctx} {e : Expr} {pos spos fpos p1 p2 p3 apos : Pos} {x y : Str}
theorem ds_forApp {name : Str} {d : D} {v : V} (i j : Nat) (hi : C.N[i]? = some x := by rfl) (hv : Vis C.sc x := by first | exact Or.inl rfl | exact Or.inr (Or.inl rfl) | exact Or.inr (Or.inr rfl)) (hd : (x == ("__debug__" : Str)) = false := by decide +kernel) (hcd : (x == ("__classdict__" : Str)) = false := by decide +kernel)
    (hj : C.N[j]? = some y := by rfl) (hvy : Vis C.sc y := by first | exact Or.inl rfl | exact Or.inr (Or.inl rfl) | exact Or.inr (Or.inr rfl)) (hdy : (y == ("__debug__" : Str)) = false := by decide +kernel) (hcdy : (y == ("__classdict__" : Str)) = false := by decide +kernel) (hy : Sto C y := by first | exact Or.inl rfl | exact Or.inr ⟨rfl, rfl⟩)
    (hn : name = "append" := by rfl) (he : ∀ X : Cx, Lc C X → PE X e (tC v)) (hr : ∀ F A, R C.K F A d v)
    (hb : ∀ X : Cx, attributeBase (.Name y p3) name X.env (eval (.Name y p3) X.env) = eval (.Name y p3) X.env := by intros; rfl)
    (hf : ∀ X : Cx, ((backTo pos (starEach [e] X.env)).all (fun x => !x.1) && (backToKw pos (keywordEach [] X.env)).all (fun x => x.1.isSome) && decide ([e].length + ([] : List Keyword).length + (if ([] : List Keyword).isEmpty then 0 else 1) < 30)) = true := by intros; rfl)
    (hl : (apos.endLine == pos.line) = true := by rfl) (hs : ∀ X : Cx, starEach [e] X.env = (false, eval e X.env) :: starEach [] X.env := by intros; rfl) (hp : ∀ X : Cx, (backTo pos (starEach [] X.env)).any (·.1) = false := by intros; rfl)
    (hs2 : ∀ X : Cx, swapsWith (.Call (.Attribute (.Name y p3) name apos) [e] [] pos) none spos.line X.env = pure false := by intros; rfl) (hs3 : ∀ (X : Cx) z, foldedSetIterable (.Name x p2) X.env z = pure z := by intros; rfl) :
    DS C (.For (.Name y p1) (.Name x p2) [.Expr (.Call (.Attribute (.Name y p3) name apos) [e] [] pos) spos] [] fpos) (sForApp i j d) := by
  subst hn
  refine ⟨tFor (iList C.K (tVar i)) (gName j) (tDrop (tBM C.K "list" rAppend (tVar j) (tCons (tC v) tNil))), fun X L => ?_, fun ρ S σ g Dn st h => ?_⟩
  · have h1 : PI X (.Name y p1) (.Name x p2) (iList X.K (tVar i)) := pi_list (pe_var (by rw [L.N]; exact hi) (by rw [L.sc]; exact hv) hd hcd)
    rw [L.K] at h1
    have h2 : PG X (.Name y p1) (gName j) := pg_name (by rw [L.N]; exact L.nd) (by rw [L.N]; exact hj) (by rw [L.sc]; exact hy.loc) (by rw [L.sc]; exact hy.fn L)
    have h3 := pe_bm PySem.F.plainAttrs_list PySem.F.slot_list_append PySem.F.type_list_append mt_append (pe_var (X := X) (pos := p3) (by rw [L.N]; exact hj) (by rw [L.sc]; exact hvy) hdy hcdy) (pa_cons (he X L) pa_nil (hs X)) (hb X) (hf X) hl (hs X) (hp X)
    rw [L.K] at h3
    exact ps_for L.po L.calm h1 h2 (pss_one (ps_expr h3 (hs2 X))) (hs3 X)
  · unfold sForApp at h
    cases e0 : ρ[i]? with
    | none => rw [e0] at h; exact h.elim
    | some sl =>
      rw [e0] at h
      cases sl with
      | ow2 b xss =>
        cases b with
        | true => exact h.elim
        | false =>
          dsimp only at h
          by_cases hc : (decide (i ≠ j) && decide (j < ρ.length) && xss.all fun xs => decide (xs.length < 10000000)) = true
          rotate_left
          · rw [if_neg hc] at h; exact h.elim
          rw [if_pos hc] at h
          rw [Bool.and_eq_true, Bool.and_eq_true, decide_eq_true_eq, decide_eq_true_eq, List.all_eq_true] at hc
          obtain ⟨⟨hij, hjl⟩, hall⟩ := hc
          have hi' : i < ρ.length := (List.getElem?_eq_some_iff.mp e0).1
          have s0 := st.at_ i _ e0
          obtain ⟨a, as, hP, nd, ho, hH, hin⟩ := s0
          have hσ : σ[i]? = some (some (.ref a)) := by
            cases q : σ[i]? with
            | none => rw [q] at ho; cases ho
            | some o => rw [q] at ho; exact congrArg some ho
          have nd' := List.nodup_cons.mp nd
          have hlen : as.length = xss.length := inner_len hin
          refine ⟨.ref a, hσ, a, rfl, ⟨as.map V.ref, SqL.of hH⟩, ?_⟩
          refine for_it (walk_list (K := C.K) (a := a) (xs := as.map V.ref)) (fun k σ' H' => ∃ g', H' = g'.H ∧ Stt C ((ρ.set i (.ow2 false (appF d k xss))).set j .un) S σ' g' ∧ Le g.F g.A g'.F g'.A ∧ g'.P i = a :: as ∧ g'.H a = some (.lst (as.map V.ref))) ?_ ?_ ?_ ?_
          · have st1 := st.forget j
            refine ⟨⟨g.F, g.A, g.H, fun j1 => if j1 = j then [] else g.P j1⟩, rfl, ?_, Le.refl _ _, ?_, hH⟩
            · rw [appF_zero, List.set_self ρ i _ e0]; exact st1
            · show (if i = j then [] else g.P i) = _
              rw [if_neg hij]; exact hP
          · rintro k σ' H' _ ⟨g', rfl, st', le', hP', hH'⟩
            exact SqL.of hH'
          · rintro k z σ' H' H2 hk ⟨g', rfl, st', le', hP', hH'⟩ hy
            obtain ⟨rfl, hz⟩ := hy
            rw [List.getElem?_map] at hz
            cases hb2 : as[k]? with
            | none => rw [hb2] at hz; cases hz
            | some b =>
              rw [hb2] at hz
              cases hz
              have hkl : k < xss.length := by rw [← hlen]; exact (List.getElem?_eq_some_iff.mp hb2).1
              have hxk : xss[k]? = some xss[k] := List.getElem?_eq_getElem hkl
              have gi : ((ρ.set i (.ow2 false (appF d k xss))).set j .un)[i]? = some (.ow2 false (appF d k xss)) := by
                rw [List.getElem?_set_ne (Ne.symm hij), List.getElem?_set_self hi']
              have s1 := st'.at_ i _ gi
              obtain ⟨a2, as2, hP2, nd2, ho2, hH2, hin2⟩ := s1
              rw [hP'] at hP2
              obtain ⟨rfl, rfl⟩ : a = a2 ∧ as = as2 := by simpa using hP2
              obtain ⟨b3, vs, k1, k2, k3⟩ := inner_get hin2 (appF_get (d := d) hxk)
              have : b3 = b := by rw [hb2] at k1; exact (Option.some.inj k1).symm
              subst this
              have bm : b3 ∈ as := List.mem_of_getElem? hb2
              have hab : a ≠ b3 := fun q => nd'.1 (q ▸ bm)
              -- the target is stored
              have st2 := st'.forget2 j (some (.ref b3))
              have ej : ((ρ.set i (.ow2 false (appF d k xss))).set j .un).set j .un = (ρ.set i (.ow2 false (appF d k xss))).set j .un := List.set_set ..
              rw [ej] at st2
              have hjσ : j < σ'.length := by rw [← st'.len, List.length_set, List.length_set]; exact hjl
              have gj : (σ'.set j (some (V.ref b3)))[j]? = some (some (V.ref b3)) := List.getElem?_set_self hjσ
              have hz2 : vs.length < sizeLine := by
                rw [← Rs_len k3]
                exact cap_lt (of_decide_eq_true (hall _ (List.getElem_mem hkl)))
              refine ⟨.ref b3, gj, .inl ⟨rfl, vs, SqL.of k2⟩, b3, vs, v, rfl, rfl, k2, hz2, ?_⟩
              have Pi : (if i = j then [] else g'.P i) = a :: as := by rw [if_neg hij]; exact hP'
              have bP : b3 ∈ (if i = j then [] else g'.P i) := by rw [Pi]; exact List.mem_cons_of_mem _ bm
              have pb := st2.pr i b3 bP
              have σi : (σ'.set j (some (V.ref b3)))[i]? = σ'[i]? := List.getElem?_set_ne (Ne.symm hij)
              refine ⟨_, rfl, st2.alter (o := .lst (vs ++ [v])) k2 pb (ρ' := (ρ.set i (.ow2 false (appF d (k + 1) xss))).set j .un) (by simp) (fun i' hn => ?_) (fun i' sl hm hs' => ?_), le', Pi, ?_⟩
              · by_cases e1 : i' = i
                · subst e1; exact absurd bP hn
                · by_cases e2 : i' = j
                  · subst e2
                    rw [List.getElem?_set_self (by rw [List.length_set]; exact hjl), List.getElem?_set_self (by rw [List.length_set]; exact hjl)]
                  · rw [List.getElem?_set_ne (Ne.symm e2), List.getElem?_set_ne (Ne.symm e2), List.getElem?_set_ne (Ne.symm e1), List.getElem?_set_ne (Ne.symm e1)]
              · have e1 : i' = i := st2.dis i' i b3 hm bP
                subst e1
                rw [List.getElem?_set_ne (Ne.symm hij), List.getElem?_set_self hi'] at hs'
                cases hs'
                rw [σi]
                refine ⟨a, as, Pi, nd, ho2, ?_, ?_⟩
                · show upd g'.H b3 _ a = _
                  rw [upd_ne hab]; exact hH2
                · rw [← appF_set hxk]
                  exact inner_set hin2 nd'.2 hb2 (fun z _ hzb w hw => by show upd g'.H b3 _ z = _; rw [upd_ne hzb]; exact hw) upd_same (Rs_append k3 (Rs_one (hr _ _)))
              · show upd g'.H b3 _ a = _
                rw [upd_ne hab]; exact hH'
          · rintro σ' H' ⟨g', rfl, st', le', _, _⟩
            rw [List.length_map, hlen, appF_all] at st'
            exact h σ' g' st' le'
      | _ => exact h.elim
end
end Thr
namespace Thr
open PySem PySem.Spec PyProof.Rows L2

/-! ### {k: v for .. in .. for .. in ..}: the model's loops -/
abbrev dc2E (kx vx ta ia tb ib : Expr) (ca cb : List Expr) (sc : Scope) (p : Pos) : Expr := .DictComp kx vx [⟨ta, ia, ca, 0⟩, ⟨tb, ib, cb, 0⟩] sc p
section
variable {kx vx ta ia tb ib : Expr} {ca cb : List Expr} {sc : Scope} {p : Pos} {it acc : Value} {D : Addr} {env : Env}
def tsts (cs : List Expr) (env : PySem.Env) : Sem Bool := forIn cs true fun c r => if r = true then (do let k ← isTrue c env (eval c env); pure (ForInStep.yield k)) else pure (ForInStep.yield r)
theorem turn_a {en : PySem.Env} : compTurn (dc2E kx vx ta ia tb ib ca cb sc p) 0 it acc en = (do
    standAt ia.pos
    match ← pyNext it with
    | none => pure (.done .next)
    | some u =>
      letOwnedTupleGo ta it u
      assign ta en u
      let k ← tsts ca en
      if k then
        let y ← eval ib en
        standAt ib.pos
        let y ← foldedSetIterable ib en y
        let _ ← runOwn (.compStart (dc2E kx vx ta ia tb ib ca cb sc p) 1 (← holding [y] (pyIter y)) acc en) en
      again (.compLoop (dc2E kx vx ta ia tb ib ca cb sc p) 0 it acc en)) := by rfl
theorem turn_b {en : PySem.Env} : compTurn (dc2E kx vx ta ia tb ib ca cb sc p) 1 it (.ref D) en = (do
    standAt ib.pos
    match ← pyNext it with
    | none => pure (.done .next)
    | some u =>
      letOwnedTupleGo tb it u
      assign tb en u
      let k ← tsts cb en
      if k then
        (do
          let a ← eval kx en
          let b ← holding [a] (eval vx en)
          standAt { kx.pos with endLine := vx.pos.endLine, endCol := vx.pos.endCol }
          holding [a, b] (dictSet D a b))
      again (.compLoop (dc2E kx vx ta ia tb ib ca cb sc p) 1 it (.ref D) en)) := by rfl
end
section
variable {prog : Program} {w : World} {A : Around} {R : Result → Shared → Prop} {s : Shared} {kx vx ta ia tb ib : Expr} {ca cb : List Expr} {sc : Scope} {p : Pos} {it acc : Value} {D : Addr} {en : PySem.Env}
abbrev bad2 (prog : Program) (w : World) (A : Around) (R : Result → Shared → Prop) (en : PySem.Env) := notedBy (model prog w) A en fun e s' => R (.error e) s'
theorem out_loop (hs : ∀ y, foldedSetIterable ib en y = pure y) (I : Nat → Shared → Prop)
    (turn : ∀ n s, I n s → wpAny (model prog w) A (pyNext it) (fun r s1 => match r with
      | none => R (.ok .next) s1
      | some u => wpAny (model prog w) A (letOwnedTupleGo ta it u) (fun _ s2 => wpAny (model prog w) A (assign ta en u) (fun _ s3 => wpAny (model prog w) A (tsts ca en) (fun k s4 =>
          if k = true then wpAny (model prog w) A (eval ib en) (fun y s5 => wpAny (model prog w) A (pyIter y) (fun it1 s6 => codeAny (model prog w) A (.compStart (dc2E kx vx ta ia tb ib ca cb sc p) 1 it1 acc en)
            (fun r s' => match r with | .ok _ => ∃ m, m < n ∧ I m s' | .error _ => False) s6) (bad2 prog w A R en) s5) (bad2 prog w A R en) s4
          else ∃ m, m < n ∧ I m s4) (bad2 prog w A R en) s3) (bad2 prog w A R en) s2) (bad2 prog w A R en) s1) (bad2 prog w A R en) s)
    (n : Nat) (h : I n s) : codeAny (model prog w) A (.compLoop (dc2E kx vx ta ia tb ib ca cb sc p) 0 it acc en) R s := by
  refine codeAny_loop rfl I (fun n s hI => ?_) n h
  show wpAny _ A ((compTurn (dc2E kx vx ta ia tb ib ca cb sc p) 0 it acc en).onRaise (fun x => do noteFrame x en; theTreesLotGoes x)) _ _ s
  refine wpAny_noted ?_
  rw [turn_a]
  refine wpAny_bind (wpAny_standAt (wpAny_bind (wpAny_mono (turn n s hI) (fun r s1 h1 => ?_) fun _ _ z => z)))
  cases r with
  | none => exact wpAny_pure h1
  | some u =>
    refine wpAny_bind (wpAny_mono h1 (fun _ s2 h2 => wpAny_bind (wpAny_mono h2 (fun _ s3 h3 => wpAny_bind (wpAny_mono h3 (fun k s4 h4 => ?_) fun _ _ z => z)) fun _ _ z => z)) fun _ _ z => z)
    cases k with
    | false => exact wpAny_pure ⟨rfl, h4⟩
    | true =>
      refine wpAny_bind (wpAny_mono h4 (fun y s5 h5 => wpAny_bind (wpAny_standAt (wpAny_bind (wpAny_of_eq (hs y) (wpAny_bind (wpAny_holding (wpAny_mono h5 (fun it1 s6 h6 => wpAny_bind (wpAny_runOwn ?_)) fun _ _ z => z))))))) fun _ _ z => z)
      rw [Around.mark_none]
      refine codeAny_mono h6 fun r s' hr => ?_
      cases r with
      | ok f => first | exact wpAny_pure ⟨rfl, hr⟩ | exact wpAny_bind (wpAny_pure (wpAny_pure ⟨rfl, hr⟩))
      | error e => exact hr.elim
theorem in_loop (I : Nat → Shared → Prop)
    (turn : ∀ n s, I n s → wpAny (model prog w) A (pyNext it) (fun r s1 => match r with
      | none => R (.ok .next) s1
      | some u => wpAny (model prog w) A (letOwnedTupleGo tb it u) (fun _ s2 => wpAny (model prog w) A (assign tb en u) (fun _ s3 => wpAny (model prog w) A (tsts cb en) (fun k s4 =>
          if k = true then wpAny (model prog w) A (eval kx en) (fun a s5 => wpAny (model prog w) A (eval vx en) (fun b s6 => wpAny (model prog w) A (dictSet D a b) (fun _ s7 => ∃ m, m < n ∧ I m s7) (bad2 prog w A R en) s6) (bad2 prog w A R en) s5) (bad2 prog w A R en) s4
          else ∃ m, m < n ∧ I m s4) (bad2 prog w A R en) s3) (bad2 prog w A R en) s2) (bad2 prog w A R en) s1) (bad2 prog w A R en) s)
    (n : Nat) (h : I n s) : codeAny (model prog w) A (.compLoop (dc2E kx vx ta ia tb ib ca cb sc p) 1 it (.ref D) en) R s := by
  refine codeAny_loop rfl I (fun n s hI => ?_) n h
  show wpAny _ A ((compTurn (dc2E kx vx ta ia tb ib ca cb sc p) 1 it (.ref D) en).onRaise (fun x => do noteFrame x en; theTreesLotGoes x)) _ _ s
  refine wpAny_noted ?_
  rw [turn_b]
  refine wpAny_bind (wpAny_standAt (wpAny_bind (wpAny_mono (turn n s hI) (fun r s1 h1 => ?_) fun _ _ z => z)))
  cases r with
  | none => exact wpAny_pure h1
  | some u =>
    refine wpAny_bind (wpAny_mono h1 (fun _ s2 h2 => wpAny_bind (wpAny_mono h2 (fun _ s3 h3 => wpAny_bind (wpAny_mono h3 (fun k s4 h4 => ?_) fun _ _ z => z)) fun _ _ z => z)) fun _ _ z => z)
    cases k with
    | false => exact wpAny_pure ⟨rfl, h4⟩
    | true =>
      exact wpAny_bind (wpAny_bind (wpAny_mono h4 (fun a s5 h5 => wpAny_bind (wpAny_holding (wpAny_mono h5 (fun b s6 h6 => wpAny_bind (wpAny_standAt (wpAny_holding (wpAny_mono h6 (fun _ s7 h7 => wpAny_pure ⟨rfl, h7⟩) fun _ _ z => z)))) fun _ _ z => z))) fun _ _ z => z))
theorem in_start (h0 : codeAny (model prog w) A (.compLoop (dc2E kx vx ta ia tb ib ca cb sc p) 1 it acc en) R s)
    (h : wpAny (model prog w) A (pyIter it) (fun j s' => codeAny (model prog w) A (.compLoop (dc2E kx vx ta ia tb ib ca cb sc p) 1 j acc en) R s') (bad2 prog w A R en) s) :
    codeAny (model prog w) A (.compStart (dc2E kx vx ta ia tb ib ca cb sc p) 1 it acc en) R s := by
  refine codeAny_of_tree ?_
  show wpAny _ _ ((compStart (dc2E kx vx ta ia tb ib ca cb sc p) 1 it acc en).onRaise (fun x => do noteFrame x en; standAt theWindowsPlace)) _ _ s
  refine wpAny_notedAt ?_
  unfold compStart
  show wpAny _ _ (ask >>= _) _ _ s
  refine wpAny_bind (wpAny_askSetting (wpAny_ite ?_))
  split
  · first | exact wpAny_bind (wpAny_pure (wpAny_pure (And.intro rfl h0))) | exact wpAny_pure (And.intro rfl h0)
  · first
      | exact wpAny_bind (wpAny_rule (wpAny_bind (wpAny_standAt (wpAny_bind (wpAny_mono h (fun j s' q => wpAny_pure (And.intro rfl q)) fun _ _ z => z)))))
      | (refine wpAny_bind (wpAny_rule ?_); show wpAny _ _ (standAt ib.pos >>= _) _ _ s; exact wpAny_bind (wpAny_standAt (wpAny_bind (wpAny_mono h (fun j s' q => wpAny_pure (And.intro rfl q)) fun _ _ z => z))))
end
end Thr
namespace Thr
open PySem PySem.Spec PyProof.Rows L2

/-! ### {k: v for .. in .. for .. in ..}: the rule -/
def Stp2 (D : Addr) (J1 : It) (g1 : TG) (tt1 : TT) (tk tv : TE) (vs1 : List Nat) (σ2 : L2.St) (Nx : Hp → Prop) (W1 : Nat → Nat → Hp → Prop) : Prop := ∀ j k H, W1 j k H →
  (J1.stop j H ∧ Nx H) ∨ (J1.go j H ∧ ∃ Nx1 : Hp → Prop, (∀ H', Nx1 H' → ∃ k', k' < k ∧ W1 (j + 1) k' H') ∧ ∀ x H', J1.yld j H x H' → g1 x (wipe σ2 vs1) H' fun σ3 H5 => wipe σ3 vs1 = wipe σ2 vs1 ∧ tt1 σ3 H5 fun b H6 =>
    if b = true then tk σ3 H6 fun y H7 => tv σ3 H7 fun z H8 => ∃ kvs k, y = kV k ∧ H8 D = some (.dK kvs) ∧ kvs.length < sizeLine ∧ Nx1 (upd H8 D (.dK (putK kvs k z))) else Nx1 H6)
def tDc2 (wi : TI) (g : TG) (tt : TT) (wi1 : TI) (g1 : TG) (tt1 : TT) (tk tv : TE) (vs vs1 : List Nat) : TE := fun σ H Q => wi σ H fun J H1 => ∀ D, H1 D = none → ∃ W : Nat → Nat → Hp → Prop, (∃ m, W 0 m (upd H1 D (.dK []))) ∧ ∀ i m H, W i m H →
  (J.stop i H ∧ Q (.ref D) H) ∨ (J.go i H ∧ ∃ Nx : Hp → Prop, (∀ H', Nx H' → ∃ m', m' < m ∧ W (i + 1) m' H') ∧ ∀ x H', J.yld i H x H' → g x (wipe σ vs) H' fun σ2 H2 => wipe σ2 vs = wipe σ vs ∧ tt σ2 H2 fun b H3 =>
    if b = true then wi1 σ2 H3 fun J1 H4 => ∃ W1 : Nat → Nat → Hp → Prop, (∃ m, W1 0 m H4) ∧ Stp2 D J1 g1 tt1 tk tv vs1 σ2 Nx W1 else Nx H3)
theorem out_w {σ : L2.St} {i : Nat} : ∀ {vs : List Nat}, i ∉ vs → (wipe σ vs)[i]? = σ[i]?
  | [], _ => rfl
  | v :: vs, h => by
    unfold wipe
    rw [List.getElem?_set_ne (fun e => h (by rw [e]; exact List.mem_cons_self))]
    exact out_w fun m => h (List.mem_cons_of_mem _ m)
section
variable {X : Cx} {kx vx ta ia tb ib : Expr} {ca cb : List Expr} {sc : Scope} {own : List (Str × Nat)} {vs1 : List Nat} {p : Pos} {wi wi1 : TI} {g g1 : TG} {tt tt1 : TT} {tk tv : TE}
theorem pe_dc2 (hc : X.calm = true) (hN : X.N.Nodup) (hi : PI X ta ia wi) (ok : BlkOk X.N X.env.scope sc own) (hv : ∀ i ∈ vs1, i ∈ own.map (·.2))
    (hg : ∀ (s : Shared) (H : Hp) (C : Addr) (cl : List (Str × Addr)) (fp : List Addr), PG (X.blk s H sc (compEnvC sc cl C X.env) fp) ta g) (ht : ∀ (s : Shared) (H : Hp) (C : Addr) (cl : List (Str × Addr)) (fp : List Addr), PTs (X.blk s H sc (compEnvC sc cl C X.env) fp) ca tt)
    (hi1 : ∀ (s : Shared) (H : Hp) (C : Addr) (cl : List (Str × Addr)) (fp : List Addr), PI (X.blk s H sc (compEnvC sc cl C X.env) fp) tb ib wi1)
    (hg1 : ∀ (s : Shared) (H : Hp) (C : Addr) (cl : List (Str × Addr)) (fp : List Addr), PG (X.blk s H sc (compEnvC sc cl C X.env) fp) tb g1) (ht1 : ∀ (s : Shared) (H : Hp) (C : Addr) (cl : List (Str × Addr)) (fp : List Addr), PTs (X.blk s H sc (compEnvC sc cl C X.env) fp) cb tt1)
    (hk : ∀ (s : Shared) (H : Hp) (C : Addr) (cl : List (Str × Addr)) (fp : List Addr), PE (X.blk s H sc (compEnvC sc cl C X.env) fp) kx tk) (he : ∀ (s : Shared) (H : Hp) (C : Addr) (cl : List (Str × Addr)) (fp : List Addr), PE (X.blk s H sc (compEnvC sc cl C X.env) fp) vx tv)
    (hs : ∀ x, foldedSetIterable ia X.env x = pure x := by intro _; rfl) (hs1 : ∀ env x, foldedSetIterable ib env x = pure x := by intro _ _; rfl) :
    PE X (dc2E kx vx ta ia tb ib ca cb sc p) (tDc2 wi g tt wi1 g1 tt1 tk tv (own.map (·.2)) vs1) := by
  refine ⟨fun pins s σ H Q I h => ?_⟩
  rw [arm_eval_DictComp]
  have hfree : ∀ y ∈ sc.names, y.2 = .free → ∃ c, X.env.cells.lookup y.1 = some c := fun y hy e => by
    rcases ok.free y hy e with k | k <;> first | exact I.ok.has _ (.inl k) | exact I.ok.has _ (.inr k)
  refine wpAny_comprehension_free rfl hs (closure_ok hfree) ok.kind (fun y hy e => by rw [ok.uniq y hy, e]) (thn (hi.run pins s σ H _ I h) fun xv sa hx => thn hx fun itv sb h2 => ?_)
  obtain ⟨it, fp, tn, J, H2, e, I2, T, st2, f2, q⟩ := h2
  subst e
  refine wpAny_newObj_type (newEnv_comp ?_)
  generalize hD : sb.heap.objs.size = D
  obtain ⟨W, ⟨m0, w0⟩, turn⟩ := q D (I2.hok.fresh (Nat.le_of_eq hD))
  generalize hs3 : ({ sb with heap := sb.heap.push { cls := .type "dict", data := .dict #[] } } : Shared) = s3
  have h3 : s3.heap = sb.heap.push { cls := .type "dict", data := .dict #[] } := by rw [← hs3]
  have I3 : Inv X pins σ (upd H2 D (.dK [])) s3 := by
    rw [← hs3]
    refine I2.laid (t' := sb.toks) (fun b o e => Heap.get?_push_of_some _ e) (Nat.le_of_eq hD) ?_
    rw [← hD]; exact dk_empty sb.heap I2.big
  have f3 : ∀ b ∈ fp, FpOk X pins (upd H2 D (.dK [])) b ∧ b < s3.heap.objs.size := fun b hb => by
    obtain ⟨o, eo, _⟩ := T.obj _ _ st2 b hb
    have lt := Heap.lt_size eo
    exact ⟨⟨by rw [upd_ne (by rw [← hD]; exact Nat.ne_of_lt lt)]; exact (f2 b hb).1, (f2 b hb).2⟩, by rw [h3, Heap.size_push]; exact Nat.lt_succ_of_lt lt⟩
  have st3 : tn 0 s3.heap := T.keep _ _ _ st2 fun b _ o e => by rw [h3]; exact Heap.get?_push_of_some _ e
  have I4 := block_start I3 ok hN f3
  generalize hcl : cellsFrom (s3.heap.objs.size + 1) sc.names (cloFrom X.env.cells sc.names []) = cl at I4
  generalize hH3 : upd H2 D (.dK []) = H3 at I3 I4 w0 f3
  have pg := hg s3 H3 s3.heap.objs.size cl fp
  have pt := ht s3 H3 s3.heap.objs.size cl fp
  have pk := hk s3 H3 s3.heap.objs.size cl fp
  have pe := he s3 H3 s3.heap.objs.size cl fp
  have pi1 := hi1 s3 H3 s3.heap.objs.size cl fp
  have pg1 := hg1 s3 H3 s3.heap.objs.size cl fp
  have pt1 := ht1 s3 H3 s3.heap.objs.size cl fp
  show codeAny _ _ (.compStart (dc2E kx vx ta ia tb ib ca cb sc p) 0 (.ref it) (.ref D) (compEnvC sc cl s3.heap.objs.size X.env)) (compPost (model X.prog X.w) X.A X.xe _ _ (.ref D) s3.heap.objs.size) { s3 with heap := pushCells (s3.heap.push { cls := .type "dict", data := .dict #[] }) sc.names }
  generalize hce : compEnvC sc cl s3.heap.objs.size X.env = ce at I4 pg pt pk pe pi1 pg1 pt1 ⊢
  have cL : ce.locals = s3.heap.objs.size := by subst hce; rfl
  generalize hs4 : ({ s3 with heap := pushCells (s3.heap.push { cls := .type "dict", data := .dict #[] }) sc.names } : Shared) = s4 at I4 ⊢
  have st4 : tn 0 s4.heap := T.keep _ _ _ st3 fun b _ o e => by rw [← hs4]; exact pushCells_keeps _ _ _ _ (Heap.get?_push_of_some _ e)
  have stat : ∀ {σ' : L2.St} {H' : Hp} {s' : Shared}, Inv (X.blk s3 H3 sc ce fp) [] σ' H' s' → (∀ b ∈ fp, H' b = none) → ∀ b ∈ fp, FpOk (X.blk s3 H3 sc ce fp) [] H' b := fun {σ' H' s'} I' hn b hb =>
    ⟨hn b hb, (I'.ok.exf b hb).1, I'.ok.exfs b hb, .inl hb, fun x c e => (I'.ok.exf b hb).2 x c e, fun z hz => absurd (show z ∈ ([] : List (Addr × Obj)) ++ [] from hz) (by simp)⟩
  refine codeAny_compStart_dict ?lp (T.self X.A 0 _ _ _ st4 ?lp)
  refine out_loop (hs1 ce) (fun n s' => ∃ i H', Inv (X.blk s3 H3 sc ce fp) [] (wipe σ (own.map (·.2))) H' s' ∧ tn i s'.heap ∧ (∀ b ∈ fp, H' b = none) ∧ W i n H') ?_ m0 ⟨0, H3, I4, st4, fun b hb => (f3 b hb).1.1, w0⟩
  rintro n s5 ⟨i, H5, I5, st5, n5, w5⟩
  rcases turn i n H5 w5 with ⟨stop, qq⟩ | ⟨go, Nx, hNx, step⟩
  · refine thnF (T.done (X.blk s3 H3 sc ce fp) rfl rfl rfl hc i [] s5 _ H5 (fun _ _ => False) I5 (stat I5 n5) st5 stop) fun r s6 ⟨hr, I6⟩ => ?_
    subst hr
    have I7 : Inv X pins σ H5 s6 := I3.call' (ch := fp) I6.os I6.base I6.hok I6.bare fun b hb => ⟨(f3 b hb).1.2.2.2.1, (f3 b hb).1.2.1, (f3 b hb).1.2.2.2.2.1, (f3 b hb).1.2.2.2.2.2⟩
    have nC : H5 s3.heap.objs.size = none := by
      have z : H5 ce.locals = none := I6.free
      rwa [cL] at z
    obtain ⟨m, hn, _⟩ := I6.loc
    have hn' : s6.heap.Ns ce.locals m := hn
    rw [cL] at hn'
    refine ⟨m, hn', fun h'' sb' => ?_⟩
    obtain ⟨k0, k1, k2, k3, k4, k5⟩ := I3.fpOk (Nat.le_refl s3.heap.objs.size) nC
    exact ⟨.ref D, H5, I7.turned (t' := s6.toks) (fun b o hb e => (sb'.2 b hb).trans e) k0 k1 k3 k4 k5, rfl, qq⟩
  · refine thnF (T.item (X.blk s3 H3 sc ce fp) rfl rfl rfl hc i [] s5 _ H5 (fun _ _ => False) I5 (stat I5 n5) st5 go) fun r s6 ⟨u, hr, h6⟩ => ?_
    subst hr
    refine thnF h6 fun _ s7 ⟨x, H7, I7, r7, y7, st7, n7⟩ => thnF (pg.run _ s7 _ H7 x u _ (I7.pinned (stat I7 n7) (T.obj _ _ st7)) r7 (step x H7 y7)) fun _ s8 ⟨σ8, H8, I8, hw8, q8⟩ => thnF (pt.run _ s8 σ8 H8 _ I8 q8) fun b s9 ⟨H9, I9, q9⟩ => ?_
    have hl8 : (wipe σ (own.map (·.2))).length = σ8.length := by rw [← hw8, wipe_length]
    have hk8 : ∀ (j : Nat) v, (wipe σ (own.map (·.2)))[j]? = some (some v) → σ8[j]? = some (some v) ∧ (wipe σ8 vs1)[j]? = some (some v) := fun j v e => by
      rw [← hw8] at e
      obtain ⟨a1, a2⟩ := wipe_some e
      exact ⟨a1, by rw [out_w fun z => a2 (hv j z)]; exact a1⟩
    have fin : ∀ {σ9 : L2.St} {s' : Shared} {H' : Hp}, Inv (X.blk s3 H3 sc ce fp) ([] ++ pinsAt fp s7.heap) σ9 H' s' → (wipe σ (own.map (·.2))).length = σ9.length → (∀ (j : Nat) v, (wipe σ (own.map (·.2)))[j]? = some (some v) → σ9[j]? = some (some v)) → Nx H' →
        ∃ m, m < n ∧ ∃ i H', Inv (X.blk s3 H3 sc ce fp) [] (wipe σ (own.map (·.2))) H' s' ∧ tn i s'.heap ∧ (∀ b ∈ fp, H' b = none) ∧ W i m H' := fun {σ9 s' H'} I' hl hkk nx => by
      obtain ⟨m', hm, w'⟩ := hNx H' nx
      have pin' : ∀ b ∈ fp, ∀ o, s7.heap.get? b = some o → s'.heap.get? b = some o ∧ H' b = none := fun b hb o e => by
        have z := I'.pin (b, o) (List.mem_append_right _ (List.mem_append_right _ (mem_pinsAt hb e)))
        exact ⟨z.1, z.2.1⟩
      refine ⟨m', hm, i + 1, H', I'.unpinned.weak hl hkk, T.keep _ _ _ st7 fun b hb o e => (pin' b hb o e).1, fun b hb => ?_, w'⟩
      obtain ⟨o, e, _⟩ := T.obj _ _ st7 b hb
      exact (pin' b hb o e).2
    cases b with
    | false => exact fin I9 hl8 (fun j v e => (hk8 j v e).1) q9
    | true =>
      refine thnF (pi1.run _ s9 σ8 H9 _ I9 q9) fun xv s10 hx => thnF hx fun itv s11 h11 => ?_
      obtain ⟨it1, fp1, tn1, J1, H11, e1, I11, T1, st11, f11, W1, ⟨m1, w1⟩, turn1⟩ := h11
      subst e1
      have stat1 : ∀ {H' : Hp}, (∀ b ∈ fp1, H' b = none) → ∀ b ∈ fp1, FpOk (X.blk s3 H3 sc ce fp) ([] ++ pinsAt fp s7.heap) H' b := fun hn b hb => ⟨hn b hb, (f11 b hb).2⟩
      refine in_start ?l1 (T1.self X.A 0 _ _ _ st11 ?l1)
      refine in_loop (fun k s' => ∃ j H', Inv (X.blk s3 H3 sc ce fp) ([] ++ pinsAt fp s7.heap) (wipe σ8 vs1) H' s' ∧ tn1 j s'.heap ∧ (∀ b ∈ fp1, H' b = none) ∧ W1 j k H') ?_ m1 ⟨0, H11, I11.weak (wipe_length _ _) (fun j v e => (wipe_some e).1), st11, fun b hb => (f11 b hb).1, w1⟩
      rintro k s12 ⟨j, H12, I12, st12, n12, w12⟩
      rcases turn1 j k H12 w12 with ⟨stop1, nx1⟩ | ⟨go1, Nx1, hNx1, step1⟩
      · refine thnF (T1.done (X.blk s3 H3 sc ce fp) rfl rfl rfl hc j _ s12 (wipe σ8 vs1) H12 (fun _ _ => False) I12 (stat1 n12) st12 stop1) fun r s13 ⟨hr, I13⟩ => ?_
        subst hr
        exact fin I13 (hl8.trans (wipe_length σ8 vs1).symm) (fun j v e => (hk8 j v e).2) nx1
      · refine thnF (T1.item (X.blk s3 H3 sc ce fp) rfl rfl rfl hc j _ s12 (wipe σ8 vs1) H12 (fun _ _ => False) I12 (stat1 n12) st12 go1) fun r s13 ⟨u1, hr, h13⟩ => ?_
        subst hr
        refine thnF h13 fun _ s14 ⟨x1, H14, I14, r14, y14, st14, n14⟩ => thnF (pg1.run _ s14 (wipe σ8 vs1) H14 x1 u1 _ (I14.pinned (stat1 n14) (T1.obj _ _ st14)) r14 (step1 x1 H14 y14)) fun _ s15 ⟨σ15, H15, I15, hw15, q15⟩ => thnF (pt1.run _ s15 σ15 H15 _ I15 q15) fun b1 s16 ⟨H16, I16, q16⟩ => ?_
        have fin1 : ∀ {s' : Shared} {H' : Hp}, Inv (X.blk s3 H3 sc ce fp) (([] ++ pinsAt fp s7.heap) ++ pinsAt fp1 s14.heap) σ15 H' s' → Nx1 H' → ∃ m, m < k ∧ ∃ j H', Inv (X.blk s3 H3 sc ce fp) ([] ++ pinsAt fp s7.heap) (wipe σ8 vs1) H' s' ∧ tn1 j s'.heap ∧ (∀ b ∈ fp1, H' b = none) ∧ W1 j m H' := fun {s' H'} I' nx => by
          obtain ⟨m', hm, w'⟩ := hNx1 H' nx
          have pin' : ∀ b ∈ fp1, ∀ o, s14.heap.get? b = some o → s'.heap.get? b = some o ∧ H' b = none := fun b hb o e => by
            have z := I'.pin (b, o) (List.mem_append_right _ (List.mem_append_right _ (mem_pinsAt hb e)))
            exact ⟨z.1, z.2.1⟩
          refine ⟨m', hm, j + 1, H', I'.unpinned.weak (by rw [← hw15, wipe_length]) (fun j v e => by rw [← hw15] at e; exact (wipe_some e).1), T1.keep _ _ _ st14 fun b hb o e => (pin' b hb o e).1, fun b hb => ?_, w'⟩
          obtain ⟨o, e, _⟩ := T1.obj _ _ st14 b hb
          exact (pin' b hb o e).2
        cases b1 with
        | false => exact fin1 I16 q16
        | true =>
          refine thnF (pk.run _ s16 σ15 H16 _ I16 q16) fun z s17 ⟨yk, H17, I17, r17, q17⟩ => thnF (pe.run _ s17 σ15 H17 _ I17 q17) fun z2 s18 ⟨yv, H18, I18, r18, kvs, kk, ek, hD18, hz18, nx⟩ => ?_
          subst ek
          exact d_dictSet (X := X.blk s3 H3 sc ce fp) I18 hD18 hz18 r17 r18 fun s19 I19 => fin1 I19 nx
end
end Thr
namespace Thr
open PySem PySem.Spec PyProof.Rows L2 RZ

def dictOf (l : List (D × D)) : List D × List D := l.foldl (fun p kv => putKs p.1 p.2 kv.1 kv.2) ([], [])
theorem dictOf_snoc (l : List (D × D)) (kv : D × D) : dictOf (l ++ [kv]) = putKs (dictOf l).1 (dictOf l).2 kv.1 kv.2 := by unfold dictOf; rw [List.foldl_append]; rfl
theorem putKs_len (ks ds : List D) (x d : D) : (putKs ks ds x d).1.length ≤ ks.length + 1 := by
  unfold putKs
  split
  · exact Nat.le_succ _
  · rw [List.length_append, List.length_cons, List.length_nil]; omega
theorem dictOf_len (l : List (D × D)) : (dictOf l).1.length ≤ l.length := by
  have : ∀ (l : List (D × D)) (p : List D × List D), (l.foldl (fun p kv => putKs p.1 p.2 kv.1 kv.2) p).1.length ≤ p.1.length + l.length := by
    intro l
    induction l with
    | nil => intro p; exact Nat.le_refl _
    | cons kv l ih =>
      intro p
      have a := ih (putKs p.1 p.2 kv.1 kv.2)
      have b := putKs_len p.1 p.2 kv.1 kv.2
      simp only [List.foldl_cons, List.length_cons]
      omega
  have := this l ([], [])
  simpa [dictOf] using this
def mPr (tk tv : M D) : M (D × D) := tk.bind fun k => tv.bind fun d => if (keyD k).isSome = true then M.ret (k, d) else fun _ _ => .bad
def dcL (vs : List Nat) (mt : D → M Fl) (tt : M Bool) (te : M (D × D)) : List D → M (List (D × D))
  | [] => fun ρ S => .ok [] ρ S
  | d :: ds => fun ρ S => match mt d (wipeE ρ vs) S with
    | .ok .nx ρ1 S1 => (match tt ρ1 S1 with
      | .ok true ρ2 S2 => (match te ρ2 S2 with
        | .ok y ρ3 S3 => (match dcL vs mt tt te ds ρ3 S3 with
          | .ok ys ρ4 S4 => .ok (y :: ys) ρ4 S4
          | _ => .bad)
        | _ => .bad)
      | .ok false ρ2 S2 => dcL vs mt tt te ds ρ2 S2
      | _ => .bad)
    | _ => .bad
section
variable {C : Ctx} {scope : Scope}
/-- the inner loop: what has been gathered, D its list -/
structure Ad (C : Ctx) (g1 : Gs) (Da : Addr) (ρ : Env) (S : Store) (σ : L2.St) (g : Gs) (acc : List (D × D)) : Prop where
  st : Stt C ρ S σ g
  le : GLe C g1 g
  fr : Free C g Da
  at_ : ∃ kvs : List (Key × V), g.H Da = some (.dK kvs) ∧ (dictOf acc).1.map keyD = kvs.map (fun p => some p.1) ∧ Rs C.K g.F g.A (dictOf acc).2 (kvs.map (·.2))
theorem Ad.go {g1 : Gs} {Da : Addr} {ρ ρ' : Env} {S S' : Store} {σ σ' : L2.St} {g g' : Gs} {acc : List (D × D)} (a : Ad C g1 Da ρ S σ g acc) (st : Stt C ρ' S' σ' g') (le : GLe C g g') : Ad C g1 Da ρ' S' σ' g' acc := by
  obtain ⟨us, h1, h0, h2⟩ := a.at_
  obtain ⟨k1, k2⟩ := le.kp Da _ a.fr h1
  exact ⟨st, a.le.trans le, k2, us, k1, h0, Rs_mono le.le _ _ h2⟩
theorem Ad.add {g1 : Gs} {Da : Addr} {ρ : Env} {S : Store} {σ : L2.St} {g : Gs} {acc : List (D × D)} (a : Ad C g1 Da ρ S σ g acc) (h0 : g1.H Da = none) {x y : D} {key : Key} {u : V} (hk : keyD x = some key) (r : R C.K g.F g.A y u) :
    ∃ us : List (Key × V), g.H Da = some (.dK us) ∧ us.length ≤ acc.length ∧ Ad C g1 Da ρ S σ (g.pv Da (.dK (putK us key u))) (acc ++ [(x, y)]) := by
  obtain ⟨us, h1, h2, h3⟩ := a.at_
  obtain ⟨z1, z2⟩ := putKs_rel hk r h2 h3
  have hl : us.length ≤ acc.length := by
    have e := congrArg List.length h2
    rw [List.length_map, List.length_map] at e
    rw [← e]; exact dictOf_len acc
  refine ⟨us, h1, hl, a.st.alterF h1 a.fr, ⟨a.le.le, fun b o hb => ?_, fun b o f hb => ?_⟩, a.fr, putK us key u, upd_same, by rw [dictOf_snoc]; exact z1, by rw [dictOf_snoc]; exact z2⟩
  · have hne : b ≠ Da := fun z => by subst z; rw [h0] at hb; cases hb
    obtain ⟨o', h'⟩ := a.le.track b o hb
    exact ⟨o', by show upd g.H Da _ b = _; rw [upd_ne hne]; exact h'⟩
  · have hne : b ≠ Da := fun z => by subst z; rw [h0] at hb; cases hb
    obtain ⟨h', f'⟩ := a.le.kp b o f hb
    exact ⟨by show upd g.H Da _ b = _; rw [upd_ne hne]; exact h', f'⟩
theorem Ad.same {g1 : Gs} {Da : Addr} {ρ ρ' : Env} {S : Store} {σ σ' : L2.St} {g g' : Gs} {acc : List (D × D)} (a : Ad C g1 Da ρ S σ g acc) (st : Stt C ρ' S σ' g') (s : Same C g g') : Ad C g1 Da ρ' S σ' g' acc := a.go st s.gle
theorem dc_inner {vs us : List Nat} {mt : D → M Fl} {tt : M Bool} {mk mv : M D} {t : TG} {t1 : TT} {tk tv : TE} (hu : ∀ u, u ∈ us → u ∈ vs)
    (sg : ∀ ρ S σ g d v Q, Stt C ρ S σ g → R C.K g.F g.A d v → TPost C g σ us (mt d ρ S) Q → t v σ g.H Q)
    (s1 : ∀ ρ S σ g Q, Stt C ρ S σ g → PostG C g σ (fun _ _ b v => v = b) (tt ρ S) Q → t1 σ g.H Q)
    (s2k : ∀ ρ S σ g Q, Stt C ρ S σ g → PostG C g σ (fun _ g d v => R C.K g.F g.A d v) (mk ρ S) Q → tk σ g.H Q) (s2v : ∀ ρ S σ g Q, Stt C ρ S σ g → PostG C g σ (fun _ g d v => R C.K g.F g.A d v) (mv ρ S) Q → tv σ g.H Q)
    {g1 g : Gs} {Da : Addr} {ρ : Env} {S : Store} {σ : L2.St} {acc : List (D × D)} {J : It} {ds : List D} (h0 : g1.H Da = none) (a : Ad C g1 Da ρ S σ g acc) (it : ItD C g J ds) {zs tail : List (D × D)} {ρe : Env} {Se : Store} (eL : dcL vs mt tt (mPr mk mv) ds ρ S = .ok zs ρe Se) (hb : (acc ++ zs ++ tail).length < 10000000)
    {Nx : Hp → Prop} (hN : ∀ σ' g', σ'.length = σ.length → wipe σ' vs = wipe σ vs → Ad C g1 Da ρe Se σ' g' (acc ++ zs) → Le g.F g.A g'.F g'.A → Nx g'.H) :
    ∃ W1 : Nat → Nat → Hp → Prop, (∃ m, W1 0 m g.H) ∧ ∀ j k H, W1 j k H → (J.stop j H ∧ Nx H) ∨ (J.go j H ∧ ∃ Nx1 : Hp → Prop, (∀ H', Nx1 H' → ∃ k', k' < k ∧ W1 (j + 1) k' H') ∧ ∀ x H', J.yld j H x H' → t x (wipe σ vs) H' fun σ3 H5 => wipe σ3 vs = wipe σ vs ∧ t1 σ3 H5 fun b H6 =>
      if b = true then tk σ3 H6 fun y H7 => tv σ3 H7 fun z H8 => ∃ kvs k, y = kV k ∧ H8 Da = some (.dK kvs) ∧ kvs.length < sizeLine ∧ Nx1 (upd H8 Da (.dK (putK kvs k z))) else Nx1 H6) := by
  obtain ⟨n, G, Y, w, en, hG, hY⟩ := it
  refine walk_W w (fun i H' => ∃ ρ' S' σ' g' acc' ys, H' = g'.H ∧ Ad C g1 Da ρ' S' σ' g' acc' ∧ σ'.length = σ.length ∧ wipe σ' vs = wipe σ vs ∧ Le g.F g.A g'.F g'.A ∧ dcL vs mt tt (mPr mk mv) (ds.drop i) ρ' S' = .ok ys ρe Se ∧ acc ++ zs = acc' ++ ys) ⟨ρ, S, σ, g, acc, zs, rfl, a, rfl, rfl, Le.refl _ _, by rw [List.drop_zero]; exact eL, rfl⟩ ?_ ?_ ?_
  · rintro i H' _ ⟨ρ', S', σ', g', acc', ys, rfl, a', hl', hw', le', eq', ez⟩
    exact hG g' le' a'.st.wd.sub
  · rintro i x H' H2 hin ⟨ρ', S', σ', g', acc', ys, rfl, a', hl', hw', le', eq', ez⟩ y
    obtain ⟨g2, d, hd, rfl, st2, le2, r2⟩ := hY ρ' S' σ' g' i x H2 a'.st le' hin y
    have hl : i < ds.length := by rw [en]; exact hin
    have hdrop : ds.drop i = d :: ds.drop (i + 1) := by
      rw [List.drop_eq_getElem_cons hl]
      rw [List.getElem?_eq_getElem hl] at hd
      cases hd; rfl
    rw [hdrop] at eq'
    obtain ⟨g3, st3, s3⟩ := st2.wipe2 vs
    have a3 := (a'.go st2 le2).same st3 s3
    have h3 : g3.H = g2.H := s3.H
    have r3 : R C.K g3.F g3.A d x := by rw [s3.F, s3.A]; exact r2
    rw [← hw', ← h3]
    have le3 : Le g'.F g'.A g3.F g3.A := le2.le.trans s3.gle.le
    refine sg (wipeE ρ' vs) S' (wipe σ' vs) g3 d x _ st3 r3 ?_
    unfold dcL at eq'
    cases e1 : mt d (wipeE ρ' vs) S' with
    | ok f ρ4 S4 =>
      rw [e1] at eq'
      cases f with
      | nx =>
        intro σ4 g4 st4 le4 eh fr4 el4 ek4
        have hw4 : wipe σ4 vs = wipe (wipe σ' vs) vs := wipe_out el4 fun k hk => ek4 k fun m => hk (hu k m)
        refine ⟨by rw [hw4, wipe_wipe], ?_⟩
        dsimp only at eq'
        have gle4 : GLe C g3 g4 := ⟨le4, fun a o ho => ⟨o, by rw [eh]; exact ho⟩, fun a o f ho => ⟨by rw [eh]; exact ho, fr4 a f⟩⟩
        have a4 := a3.go st4 gle4
        refine s1 ρ4 S4 σ4 g4 _ st4 ?_
        cases e2 : tt ρ4 S4 with
        | ok b ρ5 S5 =>
          rw [e2] at eq'
          intro v g5 st5 le5 ev
          subst ev
          have a5 := a4.go st5 le5
          cases v with
          | true =>
            rw [if_pos rfl]
            dsimp only at eq'
            refine s2k ρ5 S5 σ4 g5 _ st5 ?_
            cases ek : mk ρ5 S5 with
            | ok k ρk Sk =>
              intro uk gk stk lek rk
              refine s2v ρk Sk σ4 gk _ stk ?_
              cases ev : mv ρk Sk with
              | ok y ρ6 S6 =>
                intro u g6 st6 le6 r6
                have e3 : mPr mk mv ρ5 S5 = if (keyD k).isSome = true then .ok (k, y) ρ6 S6 else .bad := by
                  unfold mPr M.bind
                  rw [ek]
                  dsimp only
                  rw [ev]
                  dsimp only
                  split <;> rfl
                by_cases hkk : (keyD k).isSome = true
                · rw [if_pos hkk] at e3
                  rw [e3] at eq'
                  dsimp only at eq'
                  obtain ⟨key, hkey⟩ := Option.isSome_iff_exists.mp hkk
                  cases e4 : dcL vs mt tt (mPr mk mv) (ds.drop (i + 1)) ρ6 S6 with
                  | ok ys2 ρ7 S7 =>
                    rw [e4] at eq'
                    cases eq'
                    obtain ⟨us', hD6, hlu, a7⟩ := ((a5.go stk lek).go st6 le6).add h0 hkey r6
                    have hlen' : us'.length < sizeLine := by
                      refine cap_lt ?_
                      rw [ez] at hb
                      simp at hb; omega
                    refine ⟨us', key, key_kV hkey rk, hD6, hlen', ρ6, S6, σ4, _, acc' ++ [(k, y)], ys2, rfl, a7, ?_, ?_, ((le'.trans le3).trans le4).trans ((le5.le.trans lek.le).trans le6.le), e4, ?_⟩
                    · rw [el4, wipe_length, hl']
                    · rw [hw4, wipe_wipe, hw']
                    · rw [ez]; simp
                  | exc x ρ7 S7 => rw [e4] at eq'; cases eq'
                  | bad => rw [e4] at eq'; cases eq'
                · rw [if_neg hkk] at e3
                  rw [e3] at eq'; cases eq'
              | exc x ρ6 S6 =>
                have e3 : mPr mk mv ρ5 S5 = .exc x ρ6 S6 := by unfold mPr M.bind; rw [ek]; dsimp only; rw [ev]
                rw [e3] at eq'; cases eq'
              | bad =>
                have e3 : mPr mk mv ρ5 S5 = .bad := by unfold mPr M.bind; rw [ek]; dsimp only; rw [ev]
                rw [e3] at eq'; cases eq'
            | exc x ρ6 S6 =>
              have e3 : mPr mk mv ρ5 S5 = .exc x ρ6 S6 := by unfold mPr M.bind; rw [ek]
              rw [e3] at eq'; cases eq'
            | bad =>
              have e3 : mPr mk mv ρ5 S5 = .bad := by unfold mPr M.bind; rw [ek]
              rw [e3] at eq'; cases eq'
          | false =>
            rw [if_neg Bool.false_ne_true]
            dsimp only at eq'
            exact ⟨ρ5, S5, σ4, g5, acc', ys, rfl, a5, by rw [el4, wipe_length, hl'], by rw [hw4, wipe_wipe, hw'], ((le'.trans le3).trans le4).trans le5.le, eq', ez⟩
        | exc x ρ5 S5 => rw [e2] at eq'; cases eq'
        | bad => rw [e2] at eq'; cases eq'
      | _ => cases eq'
    | exc x ρ4 S4 => rw [e1] at eq'; cases eq'
    | bad => rw [e1] at eq'; cases eq'
  · rintro H' ⟨ρ', S', σ', g', acc', ys, rfl, a', hl', hw', le', eq', ez⟩
    rw [← en, List.drop_length] at eq'
    unfold dcL at eq'
    cases eq'
    rw [List.append_nil] at ez
    rw [ez] at hN
    exact hN σ' g' hl' hw' a' le'
def dc2L (vs : List Nat) (mt : D → M Fl) (tt : M Bool) (mi1 : M (List D)) (vs1 : List Nat) (mt1 : D → M Fl) (tt1 : M Bool) (te : M (D × D)) : List D → M (List (D × D))
  | [] => fun ρ S => .ok [] ρ S
  | d :: ds => fun ρ S => match mt d (wipeE ρ vs) S with
    | .ok .nx ρ1 S1 => (match tt ρ1 S1 with
      | .ok true ρ2 S2 => (match mi1 ρ2 S2 with
        | .ok ds1 ρ3 S3 => (match dcL vs1 mt1 tt1 te ds1 ρ3 S3 with
          | .ok ys ρ4 S4 => (match dc2L vs mt tt mi1 vs1 mt1 tt1 te ds ρ4 S4 with
            | .ok zs ρ5 S5 => .ok (ys ++ zs) ρ5 S5
            | _ => .bad)
          | _ => .bad)
        | _ => .bad)
      | .ok false ρ2 S2 => dc2L vs mt tt mi1 vs1 mt1 tt1 te ds ρ2 S2
      | _ => .bad)
    | _ => .bad
def mDC2 (vs : List Nat) (mi : M (List D)) (mt : D → M Fl) (tt : M Bool) (mi1 : M (List D)) (vs1 : List Nat) (mt1 : D → M Fl) (tt1 : M Bool) (te : M (D × D)) : M RV := mi.bind fun ds => fun ρ S => match dc2L vs mt tt mi1 vs1 mt1 tt1 te ds ρ S with
  | .ok ys ρ1 S1 => if ys.length < 10000000 then .ok (.owd (dictOf ys).1 (dictOf ys).2) (restE ρ (wipeE ρ1 vs) vs) S1 else .bad
  | _ => .bad
theorem dc2_read {vs vs1 us us1 : List Nat} {mi mi1 : M (List D)} {mt mt1 : D → M Fl} {tt tt1 : M Bool} {mk mv : M D} {wi wi1 : TI} {t t' : TG} {t1 t1' : TT} {tk tv : TE}
    (hu : ∀ u, u ∈ us → u ∈ vs) (hu1 : ∀ u, u ∈ us1 → u ∈ vs1) (hv : ∀ u, u ∈ vs1 → u ∈ vs)
    (si : ∀ ρ S σ g (Rk : It → Hp → Prop), Stt C ρ S σ g → PostG C g σ (fun _ g' ds J => ItD C g' J ds) (mi ρ S) Rk → wi σ g.H Rk)
    (sg : ∀ ρ S σ g d v Q, Stt (bx C scope) ρ S σ g → R C.K g.F g.A d v → TPost (bx C scope) g σ us (mt d ρ S) Q → t v σ g.H Q)
    (s1 : ∀ ρ S σ g Q, Stt (bx C scope) ρ S σ g → PostG (bx C scope) g σ (fun _ _ b v => v = b) (tt ρ S) Q → t1 σ g.H Q)
    (si1 : ∀ ρ S σ g (Rk : It → Hp → Prop), Stt (bx C scope) ρ S σ g → PostG (bx C scope) g σ (fun _ g' ds J => ItD (bx C scope) g' J ds) (mi1 ρ S) Rk → wi1 σ g.H Rk)
    (sg1 : ∀ ρ S σ g d v Q, Stt (bx C scope) ρ S σ g → R C.K g.F g.A d v → TPost (bx C scope) g σ us1 (mt1 d ρ S) Q → t' v σ g.H Q)
    (s1' : ∀ ρ S σ g Q, Stt (bx C scope) ρ S σ g → PostG (bx C scope) g σ (fun _ _ b v => v = b) (tt1 ρ S) Q → t1' σ g.H Q)
    (s2k : ∀ ρ S σ g Q, Stt (bx C scope) ρ S σ g → PostG (bx C scope) g σ (fun _ g d v => R C.K g.F g.A d v) (mk ρ S) Q → tk σ g.H Q) (s2v : ∀ ρ S σ g Q, Stt (bx C scope) ρ S σ g → PostG (bx C scope) g σ (fun _ g d v => R C.K g.F g.A d v) (mv ρ S) Q → tv σ g.H Q) :
    ∀ ρ S σ g Q, Stt C ρ S σ g → PostG C g σ (RVR C) (mDC2 vs mi mt tt mi1 vs1 mt1 tt1 (mPr mk mv) ρ S) Q → tDc2 wi t t1 wi1 t' t1' tk tv vs vs1 σ g.H Q := fun ρ S σ g Q st h => by
  refine si ρ S σ g _ st (postG_bind h fun ds ρ0 S0 J g1 _ st1 le1 it h1 => ?_)
  obtain ⟨n, G, Y, w, en, hG, hY⟩ := it
  cases eL : dc2L vs mt tt mi1 vs1 mt1 tt1 (mPr mk mv) ds ρ0 S0 with
  | ok zs ρe Se =>
    rw [eL] at h1
    dsimp only at h1
    by_cases hz : zs.length < 10000000
    · rw [if_pos hz] at h1
      intro Da hD
      refine walk_W w (Step := fun i x H' Nx => t x (wipe σ vs) H' fun σ2 H2 => wipe σ2 vs = wipe σ vs ∧ t1 σ2 H2 fun b H3 => if b = true then wi1 σ2 H3 fun J1 H4 => ∃ W1 : Nat → Nat → Hp → Prop, (∃ m, W1 0 m H4) ∧ ∀ j k H, W1 j k H →
          (J1.stop j H ∧ Nx H) ∨ (J1.go j H ∧ ∃ Nx1 : Hp → Prop, (∀ H', Nx1 H' → ∃ k', k' < k ∧ W1 (j + 1) k' H') ∧ ∀ x H', J1.yld j H x H' → t' x (wipe σ2 vs1) H' fun σ3 H5 => wipe σ3 vs1 = wipe σ2 vs1 ∧ t1' σ3 H5 fun b H6 =>
            if b = true then tk σ3 H6 fun y H7 => tv σ3 H7 fun z H8 => ∃ kvs k, y = kV k ∧ H8 Da = some (.dK kvs) ∧ kvs.length < sizeLine ∧ Nx1 (upd H8 Da (.dK (putK kvs k z))) else Nx1 H6) else Nx H3)
        (fun i H' => ∃ ρ' S' σ' g' acc ys, H' = g'.H ∧ Ad (bx C scope) g1 Da ρ' S' σ' g' acc ∧ σ'.length = σ.length ∧ wipe σ' vs = wipe σ vs ∧ dc2L vs mt tt mi1 vs1 mt1 tt1 (mPr mk mv) (ds.drop i) ρ' S' = .ok ys ρe Se ∧ zs = acc ++ ys) ?_ ?_ ?_ ?_
      · exact ⟨ρ0, S0, σ, g1.pv Da (.dK []), [], zs, rfl, ⟨(st1.priv hD).to_bx, ⟨(Stt.le_pv hD : GLe C g1 _).le, (Stt.le_pv hD : GLe C g1 _).track, (Stt.le_pv hD : GLe C g1 _).kp⟩, st1.free hD, [], upd_same, rfl, Rs_nil.mpr rfl⟩, rfl, rfl, by rw [List.drop_zero]; exact eL, rfl⟩
      · rintro i H' _ ⟨ρ', S', σ', g', acc, ys, rfl, a', hl', hw', eq', ez⟩
        exact hG g' a'.le.le a'.st.wd.sub
      · rintro i x H' H2 hin ⟨ρ', S', σ', g', acc, ys, rfl, a', hl', hw', eq', ez⟩ y
        obtain ⟨g2, d, hd, rfl, st2, le2, r2⟩ := hY ρ' S' σ' g' i x H2 a'.st.of_bx a'.le.le hin y
        have hl : i < ds.length := by rw [en]; exact hin
        have hdrop : ds.drop i = d :: ds.drop (i + 1) := by
          rw [List.drop_eq_getElem_cons hl]
          rw [List.getElem?_eq_getElem hl] at hd
          cases hd; rfl
        rw [hdrop] at eq'
        obtain ⟨g3, st3, s3⟩ := st2.wipe2 vs
        have a3 := (a'.go (g' := g2) st2.to_bx ⟨le2.le, le2.track, le2.kp⟩).go (g' := g3) st3.to_bx ⟨s3.gle.le, s3.gle.track, s3.gle.kp⟩
        have h3 : g3.H = g2.H := s3.H
        have r3 : R C.K g3.F g3.A d x := by rw [s3.F, s3.A]; exact r2
        rw [← hw', ← h3]
        refine sg (wipeE ρ' vs) S' (wipe σ' vs) g3 d x _ st3.to_bx r3 ?_
        unfold dc2L at eq'
        cases e1 : mt d (wipeE ρ' vs) S' with
        | ok f ρ4 S4 =>
          rw [e1] at eq'
          cases f with
          | nx =>
            intro σ4 g4 st4 le4 eh fr4 el4 ek4
            have hw4 : wipe σ4 vs = wipe (wipe σ' vs) vs := wipe_out el4 fun k hk => ek4 k fun m => hk (hu k m)
            refine ⟨by rw [hw4, wipe_wipe], ?_⟩
            dsimp only at eq'
            have gle4 : GLe (bx C scope) g3 g4 := ⟨le4, fun a o ho => ⟨o, by rw [eh]; exact ho⟩, fun a o f ho => ⟨by rw [eh]; exact ho, fr4 a f⟩⟩
            have a4 := a3.go st4 gle4
            refine s1 ρ4 S4 σ4 g4 _ st4 ?_
            cases e2 : tt ρ4 S4 with
            | ok b ρ5 S5 =>
              rw [e2] at eq'
              intro v g5 st5 le5 ev
              subst ev
              have a5 := a4.go st5 le5
              have hwT : wipe σ4 vs = wipe σ vs := by rw [hw4, wipe_wipe, hw']
              have hlT : σ4.length = σ.length := by rw [el4, wipe_length, hl']
              cases v with
              | true =>
                rw [if_pos rfl]
                dsimp only at eq'
                refine si1 ρ5 S5 σ4 g5 _ st5 ?_
                cases e3 : mi1 ρ5 S5 with
                | ok ds1 ρ6 S6 =>
                  rw [e3] at eq'
                  intro J1 g6 st6 le6 it1
                  dsimp only at eq'
                  cases e4 : dcL vs1 mt1 tt1 (mPr mk mv) ds1 ρ6 S6 with
                  | ok ys1 ρ7 S7 =>
                    rw [e4] at eq'
                    dsimp only at eq'
                    cases e5 : dc2L vs mt tt mi1 vs1 mt1 tt1 (mPr mk mv) (ds.drop (i + 1)) ρ7 S7 with
                    | ok zs1 ρ8 S8 =>
                      rw [e5] at eq'
                      cases eq'
                      have a6 := a5.go st6 le6
                      refine dc_inner (C := bx C scope) hu1 sg1 s1' s2k s2v hD a6 it1 e4 (tail := zs1) (by rw [List.append_assoc, ← ez]; exact hz) fun σ' g' hl2 hw2 a7 _ => ?_
                      refine ⟨ρ7, S7, σ', g', acc ++ ys1, zs1, rfl, a7, by rw [hl2, hlT], ?_, e5, by rw [ez, List.append_assoc]⟩
                      rw [hw', ← hwT]
                      refine wipe_out hl2 fun k hk => ?_
                      have hk1 : k ∉ vs1 := fun m => hk (hv k m)
                      have := congrArg (fun l : L2.St => l[k]?) hw2
                      rw [wipe_get hk1, wipe_get hk1] at this
                      exact this
                    | exc x ρ8 S8 => rw [e5] at eq'; cases eq'
                    | bad => rw [e5] at eq'; cases eq'
                  | exc x ρ7 S7 => rw [e4] at eq'; cases eq'
                  | bad => rw [e4] at eq'; cases eq'
                | exc x ρ6 S6 => rw [e3] at eq'; cases eq'
                | bad => rw [e3] at eq'; cases eq'
              | false =>
                rw [if_neg Bool.false_ne_true]
                dsimp only at eq'
                exact ⟨ρ5, S5, σ4, g5, acc, ys, rfl, a5, hlT, hwT.trans hw'.symm, eq', ez⟩
            | exc x ρ5 S5 => rw [e2] at eq'; cases eq'
            | bad => rw [e2] at eq'; cases eq'
          | _ => cases eq'
        | exc x ρ4 S4 => rw [e1] at eq'; cases eq'
        | bad => rw [e1] at eq'; cases eq'
      · rintro H' ⟨ρ', S', σ', g', acc, ys, rfl, a', hl', hw', eq', ez⟩
        rw [← en, List.drop_length] at eq'
        unfold dc2L at eq'
        cases eq'
        rw [List.append_nil] at ez
        subst ez
        obtain ⟨g3, st3, s3⟩ := a'.st.of_bx.wipe2 vs
        have st4 := st3.swap (σ' := σ) hl'.symm hw'.symm
        have leC : GLe C g1 g' := ⟨a'.le.le, a'.le.track, a'.le.kp⟩
        obtain ⟨g4, st5, s5⟩ := st4.rest st1 (by rw [s3.F, s3.A]; exact leC.le) vs
        have sT := s3.trans s5
        obtain ⟨us', hD', kD', rD⟩ := a'.at_
        have fD4 := sT.fr Da a'.fr
        have := h1 (.ref Da) g4 st5 (leC.trans sT.gle) ⟨[Da], fun a ha => by rw [List.mem_singleton] at ha; subst ha; exact ⟨fD4, hD⟩, Da, us', rfl, rfl, by rw [sT.H]; exact hD', kD', by rw [sT.F, sT.A]; exact rD⟩
        rw [sT.H] at this
        exact this
    · rw [if_neg hz] at h1; exact h1.elim
  | exc x ρe Se => rw [eL] at h1; exact h1.elim
  | bad => rw [eL] at h1; exact h1.elim
end
section
variable {C : Ctx} {kx vx tg iter tg1 iter1 : Expr} {ifs ifs1 : List Expr} {scope : Scope} {own : List (Str × Nat)} {pos : Pos} {mi mi1 : M (List D)} {mt mt1 : D → M Fl} {tt tt1 : M Bool} {mk mv : M D} {us us1 : List Nat}
theorem all_in' {us vs : List Nat} (h : us.all (fun u => vs.contains u) = true) : ∀ u, u ∈ us → u ∈ vs := fun u m => by
  have := List.all_eq_true.mp h u m
  simpa using this
theorem do_dc2 (vs1 : List Nat) (hi : DI C tg iter mi) (ok : blkC C.N C.sc scope own = true := by dsimp only [bodyC, bx]; decide +kernel) (hg : DG (bx C scope) tg us mt) (hu : us.all (fun u => (own.map (·.2)).contains u) = true := by rfl) (h1 : DTs (bx C scope) ifs tt)
    (hi1 : DI (bx C scope) tg1 iter1 mi1) (hg1 : DG (bx C scope) tg1 us1 mt1) (hu1 : us1.all (fun u => vs1.contains u) = true := by rfl) (hv : vs1.all (fun u => (own.map (·.2)).contains u) = true := by rfl) (h1' : DTs (bx C scope) ifs1 tt1) (h2 : DE (bx C scope) kx mk) (h3 : DE (bx C scope) vx mv)
    (hs : ∀ (X : Cx) x, foldedSetIterable iter X.env x = pure x := by intros; rfl) (hs1 : ∀ env x, foldedSetIterable iter1 env x = pure x := by intros; rfl) :
    DO C (.DictComp kx vx [⟨tg, iter, ifs, 0⟩, ⟨tg1, iter1, ifs1, 0⟩] scope pos) (mDC2 (own.map (·.2)) mi mt tt mi1 vs1 mt1 tt1 (mPr mk mv)) := by
  obtain ⟨wi, hi, si⟩ := hi
  obtain ⟨t, ht, sg⟩ := hg
  obtain ⟨t1, ht1, s1⟩ := h1
  obtain ⟨wi1, hi1, si1⟩ := hi1
  obtain ⟨t', ht', sg1⟩ := hg1
  obtain ⟨t1', ht1', s1'⟩ := h1'
  obtain ⟨tk, htk, sk⟩ := h2
  obtain ⟨tv, htv, sv⟩ := h3
  exact ⟨tDc2 wi t t1 wi1 t' t1' tk tv (own.map (·.2)) vs1, fun X L => pe_dc2 L.calm (by rw [L.N]; exact L.nd) (hi X L) (by rw [L.N, L.sc]; exact blkOk_by ok) (all_in hv) (fun s H c cl fp => ht _ (lc_bx L s H c cl fp)) (fun s H c cl fp => ht1 _ (lc_bx L s H c cl fp)) (fun s H c cl fp => hi1 _ (lc_bx L s H c cl fp)) (fun s H c cl fp => ht' _ (lc_bx L s H c cl fp)) (fun s H c cl fp => ht1' _ (lc_bx L s H c cl fp)) (fun s H c cl fp => htk _ (lc_bx L s H c cl fp)) (fun s H c cl fp => htv _ (lc_bx L s H c cl fp)) (hs X) hs1,
    dc2_read (all_in hu) (all_in hu1) (all_in hv) si sg s1 si1 sg1 s1' sk sv⟩
end
end Thr
namespace Thr
open PySem PySem.Spec PyProof.Rows L2 RZ

/-! ### a, b, c = text -/
def sgs (l : List Nat) : List V := l.map fun c => V.str (mkS [c])
section
variable {X : Cx} {pins : List (Addr × Obj)} {σ : L2.St} {H : Hp}
theorem draw_sg (hc : X.calm = true) {it : Addr} {x : Str} {t : Tok} (f : FpOk X pins H it) : ∀ (n i : Nat) (s : Shared) (Q : List Value → Shared → Prop), Inv X pins σ H s → s.heap.IsStrIter it "str_ascii_iterator" x t i → i + n ≤ x.cps.size →
    (∀ s' us, Inv X pins σ H s' → s'.heap.IsStrIter it "str_ascii_iterator" x t (i + n) → Vals (sgs ((x.cps.toList.drop i).take n)) us → Q us s') → wpAny (model X.prog X.w) X.A (draw (.ref it) n) Q X.xe s
  | 0, i, s, Q, I, st, _, hQ => by
    show wpAny _ _ (pure []) Q _ s
    exact wpAny_pure (hQ s [] I st (by simp [sgs]; exact .nil))
  | n + 1, i, s, Q, I, st, hle, hQ => by
    have hlt : i < x.cps.size := by omega
    obtain ⟨f0, f1, f2, f3, f4, f5⟩ := f
    have W : Walks X.prog X.w X.A it [it] [it] x.cps.size (SignAt x) (fun i h => h.IsStrIter it "str_ascii_iterator" x t i) := Walks.strAscii (I.ok.hd hc) it x t
    show wpAny _ _ (pyNext (.ref it) >>= _) Q _ s
    refine wpAny_bind (W.item i s _ _ hlt st fun v h' tk hv st' kk => ?_)
    obtain ⟨c, u, hcx, rfl⟩ := hv
    have I1 : Inv X pins σ H { s with heap := h', toks := tk } := I.turned (fun b o hb e => kk b o (by simpa using hb) e) f0 f1 f3 f4 f5
    refine wpAny_bind (wpAny_holding (draw_sg hc ⟨f0, f1, f2, f3, f4, f5⟩ n (i + 1) _ _ I1 st' (by omega) fun s' us I2 st2 r => wpAny_pure ?_))
    refine hQ s' _ I2 (by rw [show i + (n + 1) = i + 1 + n by omega]; exact st2) ?_
    have hd : x.cps.toList.drop i = x.cps[i] :: x.cps.toList.drop (i + 1) := by
      rw [List.drop_eq_getElem_cons (by simpa using hlt)]
      simp
    have hcc : x.cps[i] = c := by
      rw [Array.getElem?_eq_getElem hlt] at hcx
      exact Option.some.inj hcx
    rw [hd, List.take_succ_cons, hcc]
    exact .cons ⟨u, rfl⟩ r
def gStr (n : Nat) (t : TGs) : TG := fun v σ H Q => ∃ x : Str, v = .str x ∧ x.cps.all (· < 128) = true ∧ x.cps.size = n ∧ t (sgs x.cps.toList) σ H Q
theorem pg_str {es : List Expr} {k : Nat} {pos : Pos} {t : TGs} {n : Nat} (hc : X.calm = true) (h : PGs X es t) (hn : (assignEach es X.env).length = n) (hst : (assignEach es X.env).findIdx? (·.1) = none) : PG X (.Tuple es k pos) (gStr n t) := by
  refine ⟨fun pins s σ H v u Q I r hw => ?_⟩
  obtain ⟨x, rfl, ha, hl, hw⟩ := hw
  obtain ⟨tk, rfl⟩ := r
  rw [assign_Tuple]
  refine wpAny_bind (wpAny_standAt ?_)
  unfold unpack
  rw [hn, hst]
  refine wpAny_bind (wpAny_holding ?_)
  unfold unpackItems
  refine wpAny_bind ?_
  unfold notIterableAtAll
  refine wpAny_bind (wpAny_specialOf (typeIs_str s x tk) F.slot_str_iter.lookup (wpAny_pure ?_))
  simp only [Bool.false_eq_true, if_false]
  refine wpAny_bind (wpAny_holding (wpAny_pyIter_ascii ha ?_))
  have hI : Inv X pins σ H { s with heap := s.heap.push { cls := .type "str_ascii_iterator", data := .fields #[.str x tk, .int 0 0] } } := I.kept (t' := s.toks) fun b o e => Heap.get?_push_of_some _ e
  have fp : FpOk X pins H s.heap.objs.size := I.fpOk (Nat.le_refl _) (I.hok.fresh (Nat.le_refl _))
  refine wpAny_bind (wpAny_holding (draw_sg hc fp n 0 _ _ hI ⟨_, Heap.get?_push_size _ rfl, rfl, rfl⟩ (by omega) fun s1 us I1 st1 rv => ?_))
  have hus : us.length = n := by
    have := rv.length
    rw [← this]
    unfold sgs
    rw [List.length_map, List.length_take, List.length_drop, Array.length_toList]; omega
  rw [if_neg (by omega)]
  obtain ⟨f0, f1, f2, f3, f4, f5⟩ := fp
  refine wpAny_bind (wpAny_holding (wpAny_pyNext_ascii_end (I1.ok.hd hc) st1 (Array.getElem?_eq_none (by omega)) fun h' eb => ?_))
  simp only [Option.isSome_none, Bool.false_eq_true, if_false]
  have I2 : Inv X pins σ H { s1 with heap := h' } := I1.turned (t' := s1.toks) (fun b o hb e => eb b o hb e) f0 f1 f3 f4 f5
  refine wpAny_pure (h.run pins _ σ H (sgs x.cps.toList) us Q I2 ?_ hw)
  have e0 : (x.cps.toList.drop 0).take n = x.cps.toList := by
    rw [List.drop_zero]
    exact List.take_of_length_le (by rw [Array.length_toList]; omega)
  rw [e0] at rv
  exact rv
end
end Thr
namespace Thr
open PySem PySem.Spec PyProof.Rows L2 RZ

def tgS (vs : List Nat) : D → M Fl := fun d => match d with
  | .str s => if s.all (· < 128) = true ∧ s.length = vs.length then tgNs vs (s.map fun c => D.str [c]) else fun _ _ => .bad
  | _ => fun _ _ => .bad
theorem Rs_signs (K : PySem.W.Frag) (F : Hp) (A : List Addr) : ∀ s : List Nat, Rs K F A (s.map fun c => D.str [c]) (sgs s)
  | [] => by rw [List.map_nil]; exact Rs_nil.mpr rfl
  | c :: s => by rw [List.map_cons]; exact Rs_cons.mpr ⟨_, _, rfl, R_str.mpr rfl, Rs_signs K F A s⟩
section
variable {C : Ctx} {es : List Expr} {pos : Pos}
theorem dg_str {vs : List Nat} {k : Nat} (h : DGs C es vs) (hn : ∀ X : Cx, (assignEach es X.env).length = vs.length := by intros; rfl) (hst : ∀ X : Cx, (assignEach es X.env).findIdx? (·.1) = none := by intros; rfl) : DG C (.Tuple es k pos) vs (tgS vs) := by
  obtain ⟨t, ht, s1⟩ := h
  refine ⟨gStr vs.length t, fun X L => pg_str (pos := pos) (k := k) L.calm (ht X L) (hn X) (hst X), fun ρ S σ g d v Q st r h => ?_⟩
  cases d with
  | str s =>
    have r := R_str.mp r
    unfold tgS at h
    dsimp only at h
    by_cases hl : s.all (· < 128) = true ∧ s.length = vs.length
    · rw [if_pos hl] at h
      exact ⟨mkS s, r, by simpa [mkS] using hl.1, by simpa [mkS] using hl.2, s1 ρ S σ g _ _ Q st (Rs_signs _ _ _ s) h⟩
    · rw [if_neg hl] at h; exact h.elim
  | _ => exact h.elim
def tgL (vs : List Nat) : D → M Fl := fun d => match d with
  | .lst ds => if ds.length = vs.length then tgNs vs ds else fun _ _ => .bad
  | _ => fun _ _ => .bad
theorem dg_lst {vs : List Nat} {k : Nat} (h : DGs C es vs) (hn : ∀ X : Cx, (assignEach es X.env).length = vs.length := by intros; rfl) (hst : ∀ X : Cx, (assignEach es X.env).findIdx? (·.1) = none := by intros; rfl) : DG C (.Tuple es k pos) vs (tgL vs) := by
  obtain ⟨t, ht, s1⟩ := h
  refine ⟨gLst C.K vs.length t, fun X L => by have := pg_lst (pos := pos) (k := k) L.calm (ht X L) (hn X) (hst X); rw [L.K] at this; exact this, fun ρ S σ g d v Q st r h => ?_⟩
  cases d with
  | lst ds =>
    obtain ⟨a, us, rfl, q1, q2⟩ := R_lst.mp r
    unfold tgL at h
    dsimp only at h
    by_cases hl : ds.length = vs.length
    · rw [if_pos hl] at h
      exact ⟨a, us, rfl, SqL.of (st.wd.sub _ _ q1), by rw [← Rs_len q2]; exact hl, s1 ρ S σ g ds us Q st q2 h⟩
    · rw [if_neg hl] at h; exact h.elim
  | _ => exact h.elim
def tgE (vs : List Nat) : D → M Fl := fun d => match d with
  | .lst ds => tgL vs (.lst ds)
  | .tup ds => tgT vs (.tup ds)
  | _ => fun _ _ => .bad
theorem dg_eit {vs : List Nat} {k : Nat} (h : DGs C es vs) (hn : ∀ X : Cx, (assignEach es X.env).length = vs.length := by intros; rfl) (hst : ∀ X : Cx, (assignEach es X.env).findIdx? (·.1) = none := by intros; rfl) : DG C (.Tuple es k pos) vs (tgE vs) := by
  obtain ⟨t1, ht1, s1⟩ := dg_tup (pos := pos) (k := k) h hn hst
  obtain ⟨t2, ht2, s2⟩ := dg_lst (pos := pos) (k := k) h hn hst
  refine ⟨fun v σ H Q => t1 v σ H Q ∨ t2 v σ H Q, fun X L => ⟨fun pins s σ H v u Q I r hw => hw.elim ((ht1 X L).run pins s σ H v u Q I r) ((ht2 X L).run pins s σ H v u Q I r)⟩, fun ρ S σ g d v Q st r h => ?_⟩
  cases d with
  | tup ds => exact Or.inl (s1 ρ S σ g _ v Q st r h)
  | lst ds => exact Or.inr (s2 ρ S σ g _ v Q st r h)
  | _ => exact h.elim
theorem de_kon {x : Str} {d : D} (hg : C.sc.names.lookup x = some .globalImplicit := by rfl) (h : ∃ a, C.mg x = some (.ref a) ∧ ∀ F A, R C.K F A d (.ref a)) (hd : (x == ("__debug__" : Str)) = false := by decide +kernel) : DE C (.Name x pos) (mC d) := by
  obtain ⟨a, hm, hr⟩ := h
  exact de_glob (v := .ref a) hg hm rfl hr hd
end
theorem r_emp {K : PySem.W.Frag} {b : Addr} {d : Option Addr} {n : Nat} {s : Array (Option Value)} (h : K.lookup b = some ⟨.type "tuple", d, .seq #[] n, s⟩) (F : Hp) (A : List Addr) : R K F A (.tup []) (.ref b) :=
  R_tup.mpr ⟨b, [], rfl, Or.inr ⟨_, #[], n, h, rfl, rfl, by decide, .nil⟩, Rs_nil.mpr rfl⟩
theorem r_none3 {K : PySem.W.Frag} {a b1 b2 b3 : Addr} {d : Option Addr} {n : Nat} {s : Array (Option Value)} (h : K.lookup a = some ⟨.type "tuple", d, .seq #[.ref b1, .ref b2, .ref b3] n, s⟩)
    (h1 : ∀ F A, R K F A (.tup []) (.ref b1)) (h2 : ∀ F A, R K F A (.tup []) (.ref b2)) (h3 : ∀ F A, R K F A (.tup []) (.ref b3)) (F : Hp) (A : List Addr) : R K F A (.tup [.tup [], .tup [], .tup []]) (.ref a) :=
  R_tup.mpr ⟨a, [.ref b1, .ref b2, .ref b3], rfl, Or.inr ⟨_, #[.ref b1, .ref b2, .ref b3], n, h, rfl, rfl, (by show 3 ≤ sizeLine; decide), .cons rfl (.cons rfl (.cons rfl .nil))⟩,
    Rs_cons.mpr ⟨_, _, rfl, h1 F A, Rs_cons.mpr ⟨_, _, rfl, h2 F A, Rs_cons.mpr ⟨_, _, rfl, h3 F A, Rs_nil.mpr rfl⟩⟩⟩⟩
end Thr
noncomputable section
namespace Thr.Sh
open PySem PySem.Spec PyProof.Rows L2 RZ Thr

abbrev e__law_take : M Fl := (sSeq (sIf (mCmp dGt (mK (mOpV dIx (mPk 0) (mK (mC (.int 0))))) (mK (mC (.int 0)))) (sSeq (sSet 5 (mOp dMod (mK (M.frz (mCallB fInt (mKCons (mK (mOpV dIx (mPk 0) (mK (mC (.int 0))))) mKNil)))) (mPk 1))) (sSeq (sSub (M.frz (mOp dFdiv (mK (mOpV dIx (mPk 0) (mK (mC (.int 0))))) (mPk 1))) (mPk 0) (mC (.int 0))) (sRet (M.vl (mVar 5))))) sNil) (sSeq (sSub (M.frz (mOp dAdd (mK (mOpV dIx (mPk 0) (mK (mC (.int 2))))) (mK (mC (.int 1))))) (mPk 0) (mC (.int 2))) (sSeq (sSet 2 (mOp dMod (mK (M.frz (mCallB fInt (mKCons (mK (M.frz (mOp dMul (mK (M.frz (mOp dAdd (mK (mOpV dIx (mPk 0) (mK (mC (.int 1))))) (mK (M.frz (mOp dMul (mK (mC (.int 48271))) (mK (mOpV dIx (mPk 0) (mK (mC (.int 2))))))))))) (mK (M.frz (mOp dAdd (mK (mC (.int 39373))) (mK (mOpV dIx (mPk 0) (mK (mC (.int 2))))))))))) mKNil)))) (mK (mC (.int 2147483647))))) (sSeq (sSet 3 (mOp dAdd (mK (M.frz (mOp dMod (mK (M.frz (mCallB fInt (mKCons (mPk 2) mKNil)))) (mK (mC (.int 40009)))))) (mK (mC (.int 7))))) (sSeq (sSet 4 (mOp dMod (mK (M.frz (mCallB fInt (mKCons (mK (M.frz (mOp dMul (mK (M.frz (mOp dAdd (mK (M.frz (mOp dAdd (mPk 2) (mK (mOpV dIx (mPk 0) (mK (mC (.int 2)))))))) (mK (M.frz (mOp dFdiv (mK (mOpV dIx (mPk 0) (mK (mC (.int 1))))) (mK (mC (.int 1000003))))))))) (mPk 3)))) mKNil)))) (mK (mC (.int 2147483629))))) (sRet (mOp dMod (mK (M.frz (mCallB fInt (mKCons (mK (M.frz (mOp dFdiv (mK (M.frz (mOp dMod (mK (M.frz (mCallB fInt (mKCons (mK (M.frz (mOp dAdd (mK (M.frz (mOp dMul (mPk 4) (mK (mC (.int 48271)))))) (mPk 2)))) mKNil)))) (mK (mC (.int 2147483587)))))) (mK (mC (.int 64)))))) mKNil)))) (mPk 1))))))))
def m__law_take : MF := (mDef 2 6 e__law_take)
def p__law_cells_1 : M Fl := (sSeq (sSet 5 (mOp dMod (mK (M.frz (mCallB fInt (mKCons (mPk 3) mKNil)))) (mPk 1))) (sSub (M.frz (mOp dAdd (mK (mOpV dIx (mPk 2) (mPk 5))) (mK (M.frz (mOp dMul (mPk 4) (mK (M.frz (mOp dAdd (mPk 3) (mK (mC (.int 2))))))))))) (mPk 2) (mVar 5)))
abbrev e__law_cells : M Fl := (sSeq (sSet 2 (mOrT (mCallB fList (mKCons (mK (M.frz (mSl (mPk 0) mNoP (mPart (mVar 1))))) mKNil)) (mLst (mCons (mC (.int 0)) mNil)))) (sSeq (sFor (mEnum (mCons (M.frz (mSl (mPk 0) (mPart (mVar 1)) (mPart (mC (.int 63))))) mNil)) (tgT [3, 4]) p__law_cells_1) (sRet (M.vl (mVar 2)))))
def m__law_cells : MF := (mDef 2 6 e__law_cells)
abbrev e__law_of : M Fl := (sRet (M.vl (mOpV dIx (mPk 1) (mK (M.frz (mCall0 m__law_take (mCons (mVar 0) (mCons (M.frz (mCallB fLen (mKCons (mPk 1) mKNil))) mNil))))))))
def m__law_of : MF := (mDef 2 2 e__law_of)
def p__law_same_1 (m__law_same : MF) : M D := (M.frz (mCall0 m__law_same (mCons (mVar 2) (mCons (mVar 3) mNil))))
def b__law_same (m__law_same : MF) : MF := mDef 2 4 (sSeq (sIf (mBl (mIsiT ["list", "tuple"] (mPk 1))) (sSeq (sIf (mOr (mCmp dNe (mK (M.frz (mCallB fIsi (mKCons (mPk 0) (mKCons (mK (mC (.typ "list"))) mKNil))))) (mK (M.frz (mCallB fIsi (mKCons (mPk 1) (mKCons (mK (mC (.typ "list"))) mKNil)))))) (mCmp dNe (mK (M.frz (mCallB fIsi (mKCons (mPk 0) (mKCons (mK (mC (.typ "tuple"))) mKNil))))) (mK (M.frz (mCallB fIsi (mKCons (mPk 1) (mKCons (mK (mC (.typ "tuple"))) mKNil))))))) (sRet (M.vl (mC (.bl false)))) sNil) (sRet (M.vl (mAndV (mB (mCmp dEq (mK (M.frz (mCallB fLen (mKCons (mPk 0) mKNil)))) (mK (M.frz (mCallB fLen (mKCons (mPk 1) mKNil)))))) (M.frz (mCallB fAll (mKCons (mK (M.frz (mLC [2, 3] (mZip (mCons (mVar 0) (mCons (mVar 1) mNil))) (tgT [2, 3]) mYes (p__law_same_1 m__law_same)))) mKNil))))))) sNil) (sSeq (sIf (mOr (mCmp dIs (mPk 1) (mK (mC .non))) (mBl (mIsiT ["bool", "str"] (mPk 1)))) (sRet (M.vl (mAndV (mB (mCmp dEq (mPk 0) (mPk 1))) (mAndV (mB (mCmp dEq (mK (M.frz (mCallB fIsi (mKCons (mPk 0) (mKCons (mK (mC (.typ "bool"))) mKNil))))) (mK (M.frz (mCallB fIsi (mKCons (mPk 1) (mKCons (mK (mC (.typ "bool"))) mKNil))))))) (mB (mCmp dEq (mK (mB (mCmp dIs (mPk 0) (mK (mC .non))))) (mK (mB (mCmp dIs (mPk 1) (mK (mC .non))))))))))) sNil) (sRet (M.vl (mAndV (M.frz (mCallB fIsi (mKCons (mPk 0) (mKCons (mK (mC (.typ "int"))) mKNil)))) (mAndV (mNotV (M.frz (mCallB fIsi (mKCons (mPk 0) (mKCons (mK (mC (.typ "bool"))) mKNil))))) (mB (mCmp dEq (mPk 0) (mPk 1)))))))))
def i__law_same : Nat → MF
  | 0 => fun _ _ => .bad
  | n + 1 => b__law_same (i__law_same n)
abbrev m__law_same : MF := i__law_same 8
abbrev e_letters_of : M Fl := (sRet (M.vl (mM1 dJoin (mK (mC (.str []))) (mK (M.frz (mSSet (mM0 lowD (mPk 0))))))))
def m_letters_of : MF := (mDef 1 1 e_letters_of)
def p_plain_of_1 : M D := (mIf (mCmp dIn (mPk 1) (mK (mC (.str [97, 98, 99, 100, 101, 102, 103, 104])))) (mVar 1) (M.frz (mOp dMul (mK (mM0 lowD (mPk 1))) (mK (mC (.int 2))))))
abbrev e_plain_of : M Fl := (sRet (M.vl (mM1 dJoin (mK (mC (.str []))) (mK (M.frz (mLC [1] (mItA (mVar 0)) (tgN 1) mYes p_plain_of_1))))))
def m_plain_of : MF := (mDef 1 2 e_plain_of)
def p_undone_1 : M D := (mIf (mCmp dIn (mPk 1) (mK (mC (.str [97, 98, 99, 100, 101, 102, 103, 104])))) (mM0 uppD (mPk 1)) (mM0 lowD (mPk 1)))
abbrev e_undone : M Fl := (sRet (M.vl (mM1 dJoin (mK (mC (.str []))) (mK (M.frz (mLC [1] (mItA (mRevS (mPk 0))) (tgN 1) mYes p_undone_1))))))
def m_undone : MF := (mDef 1 2 e_undone)
def p__law_mixed_1 : M Fl := (sSeq (sSet 5 (mCall0 m__law_take (mCons (mVar 0) (mCons (M.frz (mCallB fLen (mKCons (mPk 3) mKNil))) mNil)))) (sSeq (sDrop (M.vl (mApp (mPk 4) (mOpV dIx (mPk 3) (mPk 5))))) (sSet 3 (mOp dAdd (mK (M.frz (mSl (mPk 3) mNoP (mPart (mVar 5))))) (mK (M.frz (mSl (mPk 3) (mPart (M.frz (mOp dAdd (mPk 5) (mK (mC (.int 1)))))) mNoP)))))))
abbrev e__law_mixed : M Fl := (sSeq (sPars [3, 4] (rCons (mCallB fList (mKCons (mPk 1) mKNil)) (rCons (mLst mNil) rNil))) (sSeq (sFor (mRng1 (mCons (M.frz (mCallB fLen (mKCons (mPk 1) mKNil))) mNil)) (tgN 2) p__law_mixed_1) (sRet (M.vl (mVar 4)))))
def m__law_mixed : MF := (mDef 2 6 e__law_mixed)
def p__law_row_1 : M Fl := (sSeq (sSet 6 (mCall0 m__law_of (mCons (mVar 0) (mCons (mVar 4) mNil)))) (sSet 5 (mOp dAdd (mPk 5) (mK (mIf (mCmp dGt (mK (M.frz (mCall0 m__law_take (mCons (mVar 0) (mCons (mC (.int 3)) mNil))))) (mK (mC (.int 0)))) (mVar 6) (mM0 uppD (mPk 6)))))))
abbrev e__law_row : M Fl := (sSeq (sPars [4, 5] (rCons (mSl (mK (M.frz (mCall0 m__law_mixed (mCons (mVar 0) (mCons (M.frz (mListS (mC (.str [97, 98, 99, 100, 101, 102, 103, 104])))) mNil))))) mNoP (mPart (mVar 1))) (rCons (M.vl (mC (.str []))) rNil))) (sSeq (sFor (mRng1 (mCons (M.frz (mCall0 m__law_take (mCons (mVar 0) (mCons (M.frz (mOp dAdd (mPk 2) (mK (mC (.int 1))))) mNil)))) mNil)) (tgN 3) p__law_row_1) (sRet (M.vl (mVar 5)))))
def m__law_row : MF := (mDef 3 7 e__law_row)
def p__law_plain_1 : M D := (mIf (mCmp dIn (mPk 1) (mK (mC (.str [97, 98, 99, 100, 101, 102, 103, 104])))) (mVar 1) (M.frz (mOp dAdd (mK (mM0 lowD (mPk 1))) (mK (mM0 lowD (mPk 1))))))
abbrev e__law_plain : M Fl := (sRet (M.vl (mM1 dJoin (mK (mC (.str []))) (mK (M.frz (mLC [1] (mItA (mVar 0)) (tgN 1) mYes p__law_plain_1))))))
def m__law_plain : MF := (mDef 1 2 e__law_plain)
def p__law_back_1 : M D := (mIf (mCmp dIn (mPk 1) (mK (mC (.str [97, 98, 99, 100, 101, 102, 103, 104])))) (mM0 uppD (mPk 1)) (mM0 lowD (mPk 1)))
abbrev e__law_back : M Fl := (sRet (M.vl (mM1 dJoin (mK (mC (.str []))) (mK (M.frz (mLC [1] (mItA (mRevS (mPk 0))) (tgN 1) mYes p__law_back_1))))))
def m__law_back : MF := (mDef 1 2 e__law_back)
def p_ones_of_1 : M D := (mTup (mCons (mVar 2) (mCons (mM1 dCount (mPk 1) (mPk 2)) mNil)))
abbrev e_ones_of : M Fl := (sSeq (sSet 1 (mCall0 m_plain_of (mCons (mVar 0) mNil))) (sRet (mLC [2] (mItA (M.frz (mCall0 m_letters_of (mCons (mVar 0) mNil)))) (tgN 2) mYes p_ones_of_1)))
def m_ones_of : MF := (mDef 1 3 e_ones_of)
def p_pairs_of_1 : M Fl := (sSeq (sAug 6 dAddI (M.frz (mCallB fInt (mKCons (mK (mB (mCmp dEq (mPk 5) (mPk 1)))) mKNil)))) (sAug 7 dAddI (M.frz (mOp dMul (mPk 6) (mK (M.frz (mCallB fInt (mKCons (mK (mB (mCmp dEq (mPk 5) (mPk 4)))) mKNil))))))))
def p_pairs_of_2 : M Fl := (sIf (mCmp dLt (mPk 1) (mPk 4)) (sSeq (sPars [6, 7] (rCons (M.vl (mC (.int 0))) (rCons (M.vl (mC (.int 0))) rNil))) (sSeq (sFor (mItA (M.frz (mCall0 m_plain_of (mCons (mVar 0) mNil)))) (tgN 5) p_pairs_of_1) (sDrop (M.vl (mApp (mPk 2) (mTup (mCons (M.frz (mOp dAdd (mPk 1) (mPk 4))) (mCons (mVar 7) mNil)))))))) sNil)
def p_pairs_of_3 : M Fl := (sFor (mItA (mVar 3)) (tgN 4) p_pairs_of_2)
abbrev e_pairs_of : M Fl := (sSeq (sPars [2, 3] (rCons (mLst mNil) (rCons (mCall0 m_letters_of (mCons (mVar 0) mNil)) rNil))) (sSeq (sFor (mItA (mVar 3)) (tgN 1) p_pairs_of_3) (sRetMv 2)))
def m_pairs_of : MF := (mDef 1 8 e_pairs_of)
def p_in_order_1 : M Fl := (sSeq (sAug 5 dAddI (M.frz (mOp dMul (mPk 4) (mK (M.frz (mCallB fInt (mKCons (mK (mB (mCmp dEq (mPk 2) (mK (mOpV dIx (mPk 1) (mK (mC (.int 2)))))))) mKNil))))))) (sSeq (sAug 4 dAddI (M.frz (mOp dMul (mPk 3) (mK (M.frz (mCallB fInt (mKCons (mK (mB (mCmp dEq (mPk 2) (mK (mOpV dIx (mPk 1) (mK (mC (.int 1)))))))) mKNil))))))) (sAug 3 dAddI (M.frz (mCallB fInt (mKCons (mK (mB (mCmp dEq (mPk 2) (mK (mOpV dIx (mPk 1) (mK (mC (.int 0)))))))) mKNil))))))
abbrev e_in_order : M Fl := (sSeq (sPars [3, 4, 5] (rCons (M.vl (mC (.int 0))) (rCons (M.vl (mC (.int 0))) (rCons (M.vl (mC (.int 0))) rNil)))) (sSeq (sFor (mItA (M.frz (mCall0 m_plain_of (mCons (mVar 0) mNil)))) (tgN 2) p_in_order_1) (sRet (M.vl (mVar 5)))))
def m_in_order : MF := (mDef 2 6 e_in_order)
def p_threes_of_1 : M Fl := (sIf (mChain dLt dLt (mPk 1) (mPk 4) (mPk 5)) (sSeq (sSet 6 (mOp dSub (mK (M.frz (mCall0 m_in_order (mCons (mVar 0) (mCons (M.frz (mOp dAdd (mK (M.frz (mOp dAdd (mPk 1) (mPk 4)))) (mPk 5))) mNil))))) (mK (M.frz (mCall0 m_in_order (mCons (mVar 0) (mCons (M.frz (mOp dAdd (mK (M.frz (mOp dAdd (mPk 4) (mPk 1)))) (mPk 5))) mNil))))))) (sDrop (M.vl (mApp (mPk 2) (mTup (mCons (M.frz (mOp dAdd (mK (M.frz (mOp dAdd (mPk 1) (mPk 4)))) (mPk 5))) (mCons (mVar 6) mNil))))))) sNil)
def p_threes_of_2 : M Fl := (sFor (mItA (mVar 3)) (tgN 5) p_threes_of_1)
def p_threes_of_3 : M Fl := (sFor (mItA (mVar 3)) (tgN 4) p_threes_of_2)
abbrev e_threes_of : M Fl := (sSeq (sPars [2, 3] (rCons (mLst mNil) (rCons (mCall0 m_letters_of (mCons (mVar 0) mNil)) rNil))) (sSeq (sFor (mItA (mVar 3)) (tgN 1) p_threes_of_3) (sRetMv 2)))
def m_threes_of : MF := (mDef 1 7 e_threes_of)
abbrev e_is_number : M Fl := (sRet (M.vl (mAndV (M.frz (mCallB fIsi (mKCons (mPk 0) (mKCons (mK (mC (.typ "int"))) mKNil)))) (mNotV (M.frz (mCallB fIsi (mKCons (mPk 0) (mKCons (mK (mC (.typ "bool"))) mKNil))))))))
def m_is_number : MF := (mDef 1 1 e_is_number)
def p_is_row_1 : M D := (mB (mCmp dIn (mPk 1) (mK (mC (.str [97, 98, 99, 100, 101, 102, 103, 104, 65, 66, 67, 68, 69, 70, 71, 72])))))
abbrev e_is_row : M Fl := (sRet (M.vl (mAndV (M.frz (mCallB fIsi (mKCons (mPk 0) (mKCons (mK (mC (.typ "str"))) mKNil)))) (M.frz (mCallB fAll (mKCons (mK (M.frz (mLC [1] (mItA (mVar 0)) (tgN 1) mYes p_is_row_1))) mKNil))))))
def m_is_row : MF := (mDef 1 2 e_is_row)
def p__law_book_1 : M D := (M.frz (mCall0 m__law_of (mCons (mVar 0) (mCons (mC (.str [97, 98, 99, 100, 65, 66, 67, 68])) mNil))))
def p__law_book_2 : M Fl := (sSeq (sSet 7 (mOp dSub (mK (M.frz (mCall0 m__law_take (mCons (mVar 0) (mCons (M.frz (mOp dAdd (mK (M.frz (mOp dMul (mK (mC (.int 2))) (mPk 2)))) (mK (mC (.int 1))))) mNil))))) (mPk 2))) (sIf (mAnd (mCmp dGt (mPk 4) (mK (mC (.int 0)))) (mCmp dEq (mK (M.frz (mCall0 m__law_take (mCons (mVar 0) (mCons (mC (.int 2)) mNil))))) (mK (mC (.int 0))))) (sDrop (M.vl (mApp (mPk 5) (mTup (mCons (M.frz (mCall0 m__law_take (mCons (mVar 0) (mCons (mVar 4) mNil)))) (mCons (mVar 7) mNil)))))) (sSeq (sSet 8 (M.vl (mM1 dJoin (mK (mC (.str []))) (mK (M.frz (mLC [9] (mRng1 (mCons (M.frz (mCall0 m__law_take (mCons (mVar 0) (mCons (mC (.int 6)) mNil)))) mNil)) (tgN 9) mYes p__law_book_1)))))) (sDrop (M.vl (mApp (mPk 5) (mTup (mCons (mVar 8) (mCons (mVar 7) mNil)))))))))
def p__law_book_3 : M Fl := (sSeq (sSet 5 (mLst mNil)) (sSeq (sFor (mRng1 (mCons (M.frz (mCall0 m__law_take (mCons (mVar 0) (mCons (mC (.int 5)) mNil)))) mNil)) (tgN 6) p__law_book_2) (sDrop (M.vl (mApp (mPk 3) (M.frz (mCallB fTuple (mKCons (mPk 5) mKNil))))))))
abbrev e__law_book : M Fl := (sSeq (sSet 3 (mLst mNil)) (sSeq (sFor (mRng1 (mCons (M.frz (mCall0 m__law_take (mCons (mVar 0) (mCons (M.frz (mOp dAdd (mPk 1) (mK (mC (.int 1))))) mNil)))) mNil)) (tgN 4) p__law_book_3) (sRet (mCallB fTuple (mKCons (mPk 3) mKNil)))))
def m__law_book : MF := (mDef 3 10 e__law_book)
def p__law_lists_1 (m__law_lists : MF) : M D := (M.frz (mCall0 m__law_lists (mCons (mVar 1) mNil)))
def b__law_lists (m__law_lists : MF) : MF := mDef 1 2 (sRet (mIf (mBl (mIsiT ["list", "tuple"] (mPk 0))) (mLC [1] (mItA (mVar 0)) (tgN 1) mYes (p__law_lists_1 m__law_lists)) (M.vl (mVar 0))))
def i__law_lists : Nat → MF
  | 0 => fun _ _ => .bad
  | n + 1 => b__law_lists (i__law_lists n)
abbrev m__law_lists : MF := i__law_lists 8
def p_tupled_1 (m_tupled : MF) : M D := (M.frz (mCall0 m_tupled (mCons (mVar 1) mNil)))
def b_tupled (m_tupled : MF) : MF := mDef 1 2 (sRet (mIf (mBl (mIsiT ["list", "tuple"] (mPk 0))) (mCallB fTuple (mKCons (mK (M.frz (mLC [1] (mItA (mVar 0)) (tgN 1) mYes (p_tupled_1 m_tupled)))) mKNil)) (M.vl (mVar 0))))
def i_tupled : Nat → MF
  | 0 => fun _ _ => .bad
  | n + 1 => b_tupled (i_tupled n)
abbrev m_tupled : MF := i_tupled 8
def p_kept_1 : M Bool := (mCmp dNe (mK (M.frz (mOp dMod (mPk 2) (mK (mC (.int 3)))))) (mK (mC (.int 0))))
def p_kept_2 : M D := (mTup (mCons (mVar 1) (mCons (M.frz (mOp dMod (mPk 2) (mK (mC (.int 3))))) mNil)))
abbrev e_kept : M Fl := (sRet (mCallB fTuple (mKCons (mK (M.frz (mCallB fSortT (mKCons (mK (M.frz (mLC [1, 2] (mItA (mVar 0)) (tgT [1, 2]) p_kept_1 p_kept_2))) mKNil)))) mKNil)))
def m_kept : MF := (mDef 1 3 e_kept)
abbrev e_form_of : M Fl := (sRet (M.vl (mTup (mCons (M.frz (mCall0 m_kept (mCons (M.frz (mCall0 m_ones_of (mCons (mVar 0) mNil))) mNil))) (mCons (M.frz (mCall0 m_kept (mCons (M.frz (mCall0 m_pairs_of (mCons (mVar 0) mNil))) mNil))) (mCons (M.frz (mCall0 m_kept (mCons (M.frz (mCall0 m_threes_of (mCons (mVar 0) mNil))) mNil))) mNil))))))
def m_form_of : MF := (mDef 1 1 e_form_of)
def p_letters_in_1 : M D := (mOpV dIx (mPk 2) (mK (mC (.int 0))))
abbrev e_letters_in : M Fl := (sRet (M.vl (mM1 dJoin (mK (mC (.str []))) (mK (M.frz (mSSet (mM1 dJoin (mK (mC (.str []))) (mK (M.frz (mLC2 [1, 2] (mItA (mVar 0)) (tgN 1) mYes (mItA (mVar 1)) [2] (tgN 2) mYes p_letters_in_1))))))))))
def m_letters_in : MF := (mDef 1 3 e_letters_in)
abbrev e_rests_of : M Fl := (sRet (mDC2 [1, 2, 3] (mItA (mVar 0)) (tgN 1) mYes (mItA (mVar 1)) [2, 3] (tgE [2, 3]) mYes (mPr (mVar 2) (mVar 3))))
def m_rests_of : MF := (mDef 1 4 e_rests_of)
abbrev e_rest_in : M Fl := (sRet (M.vl (mGet2 (mPk 0) (mVar 1) (mC (.int 0)))))
def m_rest_in : MF := (mDef 2 2 e_rest_in)
abbrev e_gap : M Fl := (sRet (mOp dSub (mK (M.frz (mOp dMul (mK (mC (.int 2))) (mK (M.frz (mCall0 m_rest_in (mCons (mVar 0) (mCons (M.frz (mOp dAdd (mPk 1) (mPk 2))) mNil)))))))) (mK (M.frz (mOp dMul (mK (M.frz (mCall0 m_rest_in (mCons (mVar 0) (mCons (mVar 1) mNil))))) (mK (M.frz (mCall0 m_rest_in (mCons (mVar 0) (mCons (mVar 2) mNil))))))))))
def m_gap : MF := (mDef 3 3 e_gap)
def p_names_for_1 : M D := (M.frz (mOp dAdd (mPk 2) (mPk 3)))
def p_names_for_2 : M Bool := (mCmp dLt (mK (mOpV dIx (mPk 3) (mK (mC (.int 1))))) (mPk 4))
def p_names_for_3 : M D := (M.frz (mOp dAdd (mPk 3) (mPk 4)))
abbrev e_names_for : M Fl := (sSeq (sSet 1 (mLC2 [2, 3] (mItA (mVar 0)) (tgN 2) mYes (mItA (mVar 0)) [3] (tgN 3) (mCmp dLt (mPk 2) (mPk 3)) p_names_for_1)) (sRet (mLst (mCons (M.frz (mListS (mVar 0))) (mCons (mVar 1) (mCons (M.frz (mLC2 [3, 4] (mItA (mVar 1)) (tgN 3) mYes (mItA (mVar 0)) [4] (tgN 4) p_names_for_2 p_names_for_3)) mNil))))))
def m_names_for : MF := (mDef 1 5 e_names_for)
def p_product_1 : M D := (mTup (mCons (mVar 3) (mCons (M.frz (mOp dAdd (mK (M.frz (mCall0 m_rest_in (mCons (mVar 4) (mCons (mVar 3) mNil))))) (mK (M.frz (mCall0 m_rest_in (mCons (mVar 5) (mCons (mVar 3) mNil))))))) mNil)))
def p_product_2 : M Fl := (sSeq (sSet 9 (mOp dMul (mK (M.frz (mCall0 m_rest_in (mCons (mVar 4) (mCons (mOpV dIx (mPk 3) (mK (mC (.int 0)))) mNil))))) (mK (M.frz (mCall0 m_rest_in (mCons (mVar 5) (mCons (mOpV dIx (mPk 3) (mK (mC (.int 1)))) mNil))))))) (sApp2 2 1 (mTup (mCons (mVar 3) (mCons (M.frz (mOp dAdd (mK (M.frz (mOp dAdd (mK (M.frz (mCall0 m_rest_in (mCons (mVar 4) (mCons (mVar 3) mNil))))) (mK (M.frz (mCall0 m_rest_in (mCons (mVar 5) (mCons (mVar 3) mNil)))))))) (mPk 9))) mNil)))))
def p_product_3 : M Fl := (sSeq (sAsg (mVar 3) (tgS [10, 11, 12])) (sSeq (sSet 9 (mOp dMul (mK (M.frz (mCall0 m_gap (mCons (mVar 4) (mCons (mVar 10) (mCons (mVar 11) mNil)))))) (mK (M.frz (mCall0 m_rest_in (mCons (mVar 5) (mCons (mVar 12) mNil))))))) (sSeq (sAug 9 dAddI (M.frz (mOp dMul (mK (M.frz (mCall0 m_rest_in (mCons (mVar 4) (mCons (mVar 10) mNil))))) (mK (M.frz (mCall0 m_rest_in (mCons (mVar 5) (mCons (M.frz (mOp dAdd (mPk 11) (mPk 12))) mNil)))))))) (sSeq (sAug 9 dSubI (M.frz (mOp dMul (mK (M.frz (mCall0 m_rest_in (mCons (mVar 4) (mCons (mVar 11) mNil))))) (mK (M.frz (mCall0 m_rest_in (mCons (mVar 5) (mCons (M.frz (mOp dAdd (mPk 10) (mPk 12))) mNil)))))))) (sApp2 2 2 (mTup (mCons (mVar 3) (mCons (M.frz (mOp dAdd (mK (M.frz (mOp dAdd (mK (M.frz (mCall0 m_rest_in (mCons (mVar 4) (mCons (mVar 3) mNil))))) (mK (M.frz (mCall0 m_rest_in (mCons (mVar 5) (mCons (mVar 3) mNil)))))))) (mPk 9))) mNil))))))))
def p_product_4 : M D := (M.frz (mCall0 m_kept (mCons (mVar 13) mNil)))
abbrev e_product : M Fl := (sSeq (sPars [4, 5] (rCons (mCall0 m_rests_of (mCons (mVar 0) mNil)) (rCons (mCall0 m_rests_of (mCons (mVar 1) mNil)) rNil))) (sSeq (sAsg (M.frz (mCall0 m_names_for (mCons (mM1 dJoin (mK (mC (.str []))) (mK (M.frz (mSSet (M.frz (mOp dAdd (mK (M.frz (mCall0 m_letters_in (mCons (mVar 0) mNil)))) (mK (M.frz (mCall0 m_letters_in (mCons (mVar 1) mNil)))))))))) mNil))) (tgL [6, 7, 8])) (sSeq (sSet 2 (mL2 (mLCons (mLC [3] (mItA (mVar 6)) (tgN 3) mYes p_product_1) (mLCons (mLst mNil) (mLCons (mLst mNil) mLNil))))) (sSeq (sFor (mItA (mVar 7)) (tgN 3) p_product_2) (sSeq (sFor (mItA (mVar 8)) (tgN 3) p_product_3) (sRet (mCallB fTuple (mKCons (mK (M.frz (mLC [13] (mItA (mVar 2)) (tgN 13) mYes p_product_4))) mKNil))))))))
def m_product : MF := (mDef 2 14 e_product)
def p_product_of_1 : M Fl := (sSet 1 (mCall0 m_product (mCons (mVar 1) (mCons (mVar 2) mNil))))
abbrev e_product_of : M Fl := (sSeq (sSet 1 (M.vl (mC (.tup [.tup [], .tup [], .tup []])))) (sSeq (sFor (mItA (mVar 0)) (tgN 2) p_product_of_1) (sRet (M.vl (mVar 1)))))
def m_product_of : MF := (mDef 1 3 e_product_of)
abbrev e_power : M Fl := (sRet (mCall0 m_product_of (mCons (M.frz (mOp dMul (mK (M.frz (mLst (mCons (M.frz (mCall0 m_tupled (mCons (mVar 0) mNil))) mNil)))) (mK (M.frz (mOp dMod (mPk 1) (mK (mC (.int 3)))))))) mNil)))
def m_power : MF := (mDef 2 2 e_power)
def p_forms_in_1 : M Fl := (sSet 3 (mCall0 m_product (mCons (mVar 3) (mCons (M.frz (mCall0 m_power (mCons (mIf (mBl (M.frz (mCallB fIsi (mKCons (mPk 4) (mKCons (mK (mC (.typ "str"))) mKNil))))) (M.frz (mCall0 m_form_of (mCons (mVar 4) mNil))) (mOpV dIx (mPk 1) (mPk 4))) (mCons (mVar 5) mNil)))) mNil))))
def p_forms_in_2 : M Fl := (sSeq (sSet 3 (mCall0 m_form_of (mCons (mC (.str [])) mNil))) (sSeq (sFor (mItA (mVar 2)) (tgT [4, 5]) p_forms_in_1) (sDrop (M.vl (mApp (mPk 1) (mVar 3))))))
abbrev e_forms_in : M Fl := (sSeq (sSet 1 (mLst mNil)) (sSeq (sFor (mItA (mVar 0)) (tgN 2) p_forms_in_2) (sRet (M.vl (mVar 1)))))
def m_forms_in : MF := (mDef 1 6 e_forms_in)
def p__law_form_1 : M Fl := (sIf (mCmp dNotIn (mPk 1) (mPk 3)) (sSeq (sSet 12 (mOp dAdd (mPk 3) (mPk 1))) (sDput (M.frz (mOp dAdd (mK (mGet2 (mPk 9) (mVar 12) (mC (.int 0)))) (mK (mOpV dGet (mPk 8) (mPk 3))))) 9 (mVar 12))) sNil)
def p__law_form_2 : M Fl := (sIf (mCmp dNe (mPk 3) (mPk 1)) (sDput (M.frz (mOp dAdd (mK (mGet2 (mPk 8) (M.frz (mOp dAdd (mPk 3) (mPk 1))) (mC (.int 0)))) (mK (mOpV dGet (mPk 7) (mPk 3))))) 8 (M.frz (mOp dAdd (mPk 3) (mPk 1)))) sNil)
def p__law_form_3 : M Fl := (sSeq (sFor (mItA (M.frz (mCallB fSort (mKCons (mPk 8) mKNil)))) (tgN 3) p__law_form_1) (sSeq (sFor (mItA (M.frz (mCallB fSort (mKCons (mPk 7) mKNil)))) (tgN 3) p__law_form_2) (sDput (M.frz (mOp dAdd (mK (mGet2 (mPk 7) (mVar 1) (mC (.int 0)))) (mK (mC (.int 1))))) 7 (mVar 1))))
def p__law_form_4 : M D := (mTup (mCons (mVar 3) (mCons (M.frz (mOp dMod (mK (mOpV dGet (mPk 7) (mPk 3))) (mK (mC (.int 3))))) mNil)))
def p__law_form_5 : M Fl := (sIf (mCmp dLt (mK (mOpV dIx (mPk 3) (mK (mC (.int 0))))) (mK (mOpV dIx (mPk 3) (mK (mC (.int 1)))))) (sApp2 2 1 (mTup (mCons (mVar 3) (mCons (M.frz (mOp dMod (mK (mOpV dGet (mPk 8) (mPk 3))) (mK (mC (.int 3))))) mNil)))) sNil)
def p__law_form_6 : M Fl := (sIf (mChain dLt dLt (mPk 5) (mPk 10) (mPk 11)) (sSeq (sSet 14 (M.vl (mGet2 (mPk 9) (M.frz (mOp dAdd (mK (M.frz (mOp dAdd (mPk 5) (mPk 10)))) (mPk 11))) (mC (.int 0))))) (sSeq (sSet 14 (mOp dSub (mPk 14) (mK (mGet2 (mPk 9) (M.frz (mOp dAdd (mK (M.frz (mOp dAdd (mPk 10) (mPk 5)))) (mPk 11))) (mC (.int 0)))))) (sApp2 2 2 (mTup (mCons (M.frz (mOp dAdd (mK (M.frz (mOp dAdd (mPk 5) (mPk 10)))) (mPk 11))) (mCons (M.frz (mOp dMod (mPk 14) (mK (mC (.int 3))))) mNil)))))) sNil)
def p__law_form_7 : M Fl := (sFor (mItA (mVar 4)) (tgN 11) p__law_form_6)
def p__law_form_8 : M Fl := (sFor (mItA (mVar 4)) (tgN 10) p__law_form_7)
def p__law_form_9 : M Bool := (mCmp dNe (mK (mOpV dIx (mPk 1) (mK (mC (.int 1))))) (mK (mC (.int 0))))
def p__law_form_10 : M D := (M.frz (mCallB fTuple (mKCons (mK (M.frz (mLC [1] (mItA (mVar 13)) (tgN 1) p__law_form_9 (mVar 1)))) mKNil)))
abbrev e__law_form : M Fl := (sSeq (sPars [6, 7, 8, 9] (rCons (mCall0 m__law_plain (mCons (mVar 0) mNil)) (rCons mDNew (rCons mDNew (rCons mDNew rNil))))) (sSeq (sFor (mItA (mVar 6)) (tgN 1) p__law_form_3) (sSeq (sSet 2 (mL2 (mLCons (mLC [3] (mItA (M.frz (mCallB fSort (mKCons (mPk 7) mKNil)))) (tgN 3) mYes p__law_form_4) (mLCons (mLst mNil) (mLCons (mLst mNil) mLNil))))) (sSeq (sFor (mItA (M.frz (mCallB fSort (mKCons (mPk 8) mKNil)))) (tgN 3) p__law_form_5) (sSeq (sSet 4 (mCallB fSort (mKCons (mPk 7) mKNil))) (sSeq (sFor (mItA (mVar 4)) (tgN 5) p__law_form_8) (sRet (mCallB fTuple (mKCons (mK (M.frz (mLC [13] (mItA (mVar 2)) (tgN 13) mYes p__law_form_10))) mKNil)))))))))
def m__law_form : MF := (mDef 1 15 e__law_form)
def p__law_near_1 : M Fl := (sSeq (sPars [3, 4] (rCons (mCall0 m__law_take (mCons (mVar 0) (mCons (M.frz (mOp dAdd (mK (M.frz (mCallB fLen (mKCons (mPk 1) mKNil)))) (mK (mC (.int 1))))) mNil))) (rCons (mCall0 m__law_take (mCons (mVar 0) (mCons (mC (.int 5)) mNil))) rNil))) (sSeq (sIf (mCmp dLt (mPk 4) (mK (mC (.int 2)))) (sSet 5 (mOp dMul (mK (M.frz (mCall0 m__law_row (mCons (mVar 0) (mCons (mC (.int 3)) (mCons (mC (.int 3)) mNil)))))) (mK (mC (.int 3))))) (sIf (mCmp dLt (mPk 4) (mK (mC (.int 4)))) (sSeq (sSet 5 (mCall0 m__law_row (mCons (mVar 0) (mCons (mC (.int 4)) (mCons (mC (.int 3)) mNil))))) (sSet 5 (mOp dAdd (mPk 5) (mK (M.frz (mCall0 m__law_back (mCons (mVar 5) mNil))))))) (sSet 5 (mCall0 m__law_row (mCons (mVar 0) (mCons (mC (.int 4)) (mCons (mC (.int 1)) mNil))))))) (sSet 1 (mOp dAdd (mK (M.frz (mOp dAdd (mK (M.frz (mSl (mPk 1) mNoP (mPart (mVar 3))))) (mPk 5)))) (mK (M.frz (mSl (mPk 1) (mPart (mVar 3)) mNoP)))))))
abbrev e__law_near : M Fl := (sSeq (sFor (mRng1 (mCons (M.frz (mOp dAdd (mK (mC (.int 1))) (mK (M.frz (mCall0 m__law_take (mCons (mVar 0) (mCons (mC (.int 3)) mNil))))))) mNil)) (tgN 2) p__law_near_1) (sRet (M.vl (mVar 1))))
def m__law_near : MF := (mDef 2 6 e__law_near)
def p_rises_1 : M D := (mB (mCmp dLt (mPk 1) (mPk 2)))
abbrev e_rises : M Fl := (sRet (mCallB fAll (mKCons (mK (M.frz (mLC [1, 2] (mZip (mCons (mVar 0) (mCons (M.frz (mSl (mPk 0) (mPart (mC (.int 1))) mNoP)) mNil))) (tgT [1, 2]) mYes p_rises_1))) mKNil)))
def m_rises : MF := (mDef 1 3 e_rises)
def p_is_part_1 : M D := (mAndV (M.frz (mCallB fIsi (mKCons (mPk 2) (mKCons (mK (mC (.typ "tuple"))) mKNil)))) (mB (mCmp dEq (mK (M.frz (mCallB fLen (mKCons (mPk 2) mKNil)))) (mK (mC (.int 2))))))
def p_is_part_2 : M D := (mAndV (M.frz (mCallB fIsi (mKCons (mK (mOpV dIx (mPk 2) (mK (mC (.int 0))))) (mKCons (mK (mC (.typ "str"))) mKNil)))) (mAndV (mB (mCmp dEq (mK (M.frz (mCallB fLen (mKCons (mK (mOpV dIx (mPk 2) (mK (mC (.int 0))))) mKNil)))) (mPk 1))) (M.frz (mCall0 m_rises (mCons (mOpV dIx (mPk 2) (mK (mC (.int 0)))) mNil)))))
def p_is_part_3 : M D := (mB (mCmp dIn (mPk 3) (mK (mC (.str [97, 98, 99, 100, 101, 102, 103, 104])))))
def p_is_part_4 : M (List D) := (mItA (mOpV dIx (mPk 2) (mK (mC (.int 0)))))
def p_is_part_5 : M D := (mAndV (M.frz (mCall0 m_is_number (mCons (mOpV dIx (mPk 2) (mK (mC (.int 1)))) mNil))) (mB (mCmp dIn (mK (mOpV dIx (mPk 2) (mK (mC (.int 1))))) (mK (mTup (mCons (mC (.int 1)) (mCons (mC (.int 2)) mNil)))))))
def p_is_part_6 : M D := (mOpV dIx (mPk 2) (mK (mC (.int 0))))
abbrev e_is_part : M Fl := (sSeq (sIf (mOr (mNot (mBl (M.frz (mCallB fIsi (mKCons (mPk 0) (mKCons (mK (mC (.typ "tuple"))) mKNil)))))) (mNot (mBl (M.frz (mCallB fAll (mKCons (mK (M.frz (mLC [2] (mItA (mVar 0)) (tgN 2) mYes p_is_part_1))) mKNil)))))) (sRet (M.vl (mC (.bl false)))) sNil) (sSeq (sIf (mNot (mBl (M.frz (mCallB fAll (mKCons (mK (M.frz (mLC [2] (mItA (mVar 0)) (tgN 2) mYes p_is_part_2))) mKNil))))) (sRet (M.vl (mC (.bl false)))) sNil) (sSeq (sIf (mNot (mBl (M.frz (mCallB fAll (mKCons (mK (M.frz (mLC2 [2, 3] (mItA (mVar 0)) (tgN 2) mYes p_is_part_4 [3] (tgN 3) mYes p_is_part_3))) mKNil))))) (sRet (M.vl (mC (.bl false)))) sNil) (sRet (M.vl (mAndV (M.frz (mCallB fAll (mKCons (mK (M.frz (mLC [2] (mItA (mVar 0)) (tgN 2) mYes p_is_part_5))) mKNil))) (M.frz (mCall0 m_rises (mCons (M.frz (mLC [2] (mItA (mVar 0)) (tgN 2) mYes p_is_part_6)) mNil)))))))))
def m_is_part : MF := (mDef 2 4 e_is_part)
def p_is_form_1 : M D := (M.frz (mCall0 m_is_part (mCons (mVar 2) (mCons (M.frz (mOp dAdd (mPk 1) (mK (mC (.int 1))))) mNil))))
abbrev e_is_form : M Fl := (sSeq (sIf (mOr (mNot (mBl (M.frz (mCallB fIsi (mKCons (mPk 0) (mKCons (mK (mC (.typ "tuple"))) mKNil)))))) (mCmp dNe (mK (M.frz (mCallB fLen (mKCons (mPk 0) mKNil)))) (mK (mC (.int 3))))) (sRet (M.vl (mC (.bl false)))) sNil) (sRet (mCallB fAll (mKCons (mK (M.frz (mLC [1, 2] (mEnum (mCons (mVar 0) mNil)) (tgT [1, 2]) mYes p_is_form_1))) mKNil))))
def m_is_form : MF := (mDef 1 3 e_is_form)
def p__law_named_parts_1 : M Fl := (sIf (mCmp dLt (mPk 1) (mPk 5)) (sDrop (M.vl (mApp (mPk 3) (M.frz (mOp dAdd (mPk 1) (mPk 5)))))) sNil)
def p__law_named_parts_2 : M Fl := (sFor (mItA (mVar 0)) (tgN 5) p__law_named_parts_1)
def p__law_named_parts_3 : M Bool := (mCmp dGt (mPk 6) (mK (mOpV dIx (mPk 2) (mK (mC (.int 1))))))
def p__law_named_parts_4 : M D := (M.frz (mOp dAdd (mPk 2) (mPk 6)))
def p__law_named_parts_5 : M Fl := (sSet 4 (mOp dAdd (mPk 4) (mK (M.frz (mLC [6] (mItA (mVar 0)) (tgN 6) p__law_named_parts_3 p__law_named_parts_4)))))
abbrev e__law_named_parts : M Fl := (sSeq (sPars [3, 4] (rCons (mLst mNil) (rCons (mLst mNil) rNil))) (sSeq (sFor (mItA (mVar 0)) (tgN 1) p__law_named_parts_2) (sSeq (sFor (mItA (mVar 3)) (tgN 2) p__law_named_parts_5) (sRet (mLst (mCons (M.frz (mCallB fList (mKCons (mPk 0) mKNil))) (mCons (mVar 3) (mCons (mVar 4) mNil))))))))
def m__law_named_parts : MF := (mDef 1 7 e__law_named_parts)
def p__law_drawn_form_1 : M D := (mTup (mCons (mVar 5) (mCons (M.frz (mCall0 m__law_take (mCons (mVar 0) (mCons (mC (.int 3)) mNil)))) mNil)))
def p__law_drawn_form_2 : M Bool := (mCmp dNe (mK (mOpV dIx (mPk 5) (mK (mC (.int 1))))) (mK (mC (.int 0))))
def p__law_drawn_form_3 : M Fl := (sSeq (sSet 4 (mLC [5] (mItA (mVar 3)) (tgN 5) mYes p__law_drawn_form_1)) (sDrop (M.vl (mApp (mPk 2) (M.frz (mCallB fTuple (mKCons (mK (M.frz (mLC [5] (mItA (mVar 4)) (tgN 5) p__law_drawn_form_2 (mVar 5)))) mKNil)))))))
abbrev e__law_drawn_form : M Fl := (sSeq (sSet 2 (mLst mNil)) (sSeq (sFor (mItA (M.frz (mCall0 m__law_named_parts (mCons (mVar 1) mNil)))) (tgN 3) p__law_drawn_form_3) (sRet (mCallB fTuple (mKCons (mPk 2) mKNil)))))
def m__law_drawn_form : MF := (mDef 2 6 e__law_drawn_form)
abbrev e__law_some_names : M Fl := (sRet (M.vl (mM1 dJoin (mK (mC (.str []))) (mK (M.frz (mCallB fSort (mKCons (mK (M.frz (mSl (mK (M.frz (mCall0 m__law_mixed (mCons (mVar 0) (mCons (M.frz (mListS (mC (.str [97, 98, 99, 100, 101, 102, 103, 104])))) mNil))))) mNoP (mPart (mVar 1))))) mKNil)))))))
def m__law_some_names : MF := (mDef 2 2 e__law_some_names)
abbrev e_alike : M Fl := (sRet (M.vl (mB (mCmp dEq (mK (M.frz (mCall0 m_form_of (mCons (mVar 0) mNil)))) (mK (M.frz (mCall0 m_form_of (mCons (mVar 1) mNil))))))))
def m_alike : MF := (mDef 2 2 e_alike)
abbrev e_is_nothing : M Fl := (sRet (M.vl (mB (mCmp dEq (mK (M.frz (mCall0 m_form_of (mCons (mVar 0) mNil)))) (mK (mC (.tup [.tup [], .tup [], .tup []])))))))
def m_is_nothing : MF := (mDef 1 1 e_is_nothing)
abbrev e_form_undone : M Fl := (sRet (mCall0 m_power (mCons (mVar 0) (mCons (mC (.int 2)) mNil))))
def m_form_undone : MF := (mDef 1 1 e_form_undone)
abbrev e_seam_row : M Fl := (sRet (mOp dAdd (mK (M.frz (mOp dAdd (mK (M.frz (mOp dAdd (mK (M.frz (mCall0 m_undone (mCons (mVar 0) mNil)))) (mK (M.frz (mCall0 m_undone (mCons (mVar 1) mNil))))))) (mPk 0)))) (mPk 1)))
def m_seam_row : MF := (mDef 2 2 e_seam_row)
def p_row_of_1 : M D := (M.frz (mOp dMul (mPk 7) (mPk 8)))
def p_row_of_2 : M D := (M.frz (mOp dMul (mK (M.frz (mCall0 m_seam_row (mCons (mOpV dIx (mPk 3) (mK (mC (.int 0)))) (mCons (mOpV dIx (mPk 3) (mK (mC (.int 1)))) mNil))))) (mPk 8)))
def p_row_of_3 : M Fl := (sSeq (sSet 6 (mOp dSub (mK (M.frz (mCall0 m_rest_in (mCons (mVar 4) (mCons (mVar 3) mNil))))) (mK (M.frz (mCall0 m_rest_in (mCons (mVar 5) (mCons (mVar 3) mNil))))))) (sAug 2 dAddI (M.frz (mOp dMul (mK (M.frz (mCall0 m_seam_row (mCons (M.frz (mCall0 m_seam_row (mCons (mOpV dIx (mPk 3) (mK (mC (.int 0)))) (mCons (mOpV dIx (mPk 3) (mK (mC (.int 1)))) mNil)))) (mCons (mOpV dIx (mPk 3) (mK (mC (.int 2)))) mNil))))) (mK (M.frz (mOp dMod (mK (M.frz (mOp dMul (mK (mC (.int 2))) (mPk 6)))) (mK (mC (.int 3))))))))))
abbrev e_row_of : M Fl := (sSeq (sSet 1 (mCall0 m_tupled (mCons (mVar 0) mNil))) (sSeq (sSet 2 (M.vl (mM1 dJoin (mK (mC (.str []))) (mK (M.frz (mLC [7, 8] (mItA (M.frz (mRevL (mK (mOpV dIx (mPk 1) (mK (mC (.int 0)))))))) (tgT [7, 8]) mYes p_row_of_1)))))) (sSeq (sAug 2 dAddI (mM1 dJoin (mK (mC (.str []))) (mK (M.frz (mLC [3, 8] (mItA (mOpV dIx (mPk 1) (mK (mC (.int 1))))) (tgT [3, 8]) mYes p_row_of_2))))) (sSeq (sPars [4, 5] (rCons (mCall0 m_rests_of (mCons (mVar 1) mNil)) (rCons (mCall0 m_rests_of (mCons (M.frz (mCall0 m_form_of (mCons (mVar 2) mNil))) mNil)) rNil))) (sSeq (sFor (mItA (mOpV dIx (mK (M.frz (mCall0 m_names_for (mCons (M.frz (mCall0 m_letters_in (mCons (mVar 1) mNil))) mNil)))) (mK (mC (.int 2))))) (tgN 3) p_row_of_3) (sRet (M.vl (mVar 2))))))))
def m_row_of : MF := (mDef 1 9 e_row_of)
abbrev e_is_row_of : M Fl := (sRet (M.vl (mAndV (M.frz (mCall0 m_is_row (mCons (mVar 1) mNil))) (mB (mCmp dEq (mK (M.frz (mCall0 m_form_of (mCons (mVar 1) mNil)))) (mK (M.frz (mCall0 m_tupled (mCons (mVar 0) mNil)))))))))
def m_is_row_of : MF := (mDef 2 2 e_is_row_of)
def p_how_many_forms_1 : M Fl := (sSet 1 (mOp dMul (mPk 1) (mK (mC (.int 3)))))
abbrev e_how_many_forms : M Fl := (sSeq (sSet 1 (M.vl (mC (.int 1)))) (sSeq (sFor (mRng1 (mCons (M.frz (mOp dAdd (mK (M.frz (mOp dAdd (mPk 0) (mK (M.frz (mOp dFdiv (mK (M.frz (mOp dMul (mPk 0) (mK (M.frz (mOp dSub (mPk 0) (mK (mC (.int 1))))))))) (mK (mC (.int 2))))))))) (mK (M.frz (mOp dFdiv (mK (M.frz (mOp dMul (mK (M.frz (mOp dMul (mPk 0) (mK (M.frz (mOp dSub (mPk 0) (mK (mC (.int 1))))))))) (mK (M.frz (mOp dSub (mPk 0) (mK (mC (.int 2))))))))) (mK (mC (.int 6)))))))) mNil)) (tgN 2) p_how_many_forms_1) (sRet (M.vl (mVar 1)))))
def m_how_many_forms : MF := (mDef 1 3 e_how_many_forms)
def p_nth_form_1 : M Fl := (sSeq (sDrop (M.vl (mApp (mPk 6) (mTup (mCons (mVar 7) (mCons (M.frz (mOp dMod (mPk 4) (mK (mC (.int 3))))) mNil)))))) (sSet 4 (mOp dFdiv (mPk 4) (mK (mC (.int 3))))))
def p_nth_form_2 : M Fl := (sSeq (sSet 6 (mLst mNil)) (sSeq (sFor (mItA (M.frz (mRevL (mPk 2)))) (tgN 7) p_nth_form_1) (sDrop (M.vl (mApp (mPk 5) (M.frz (mCall0 m_kept (mCons (mVar 6) mNil))))))))
abbrev e_nth_form : M Fl := (sSeq (sIf (mNot (mChain dLe dLt (mK (mC (.int 0))) (mPk 1) (mK (M.frz (mCall0 m_how_many_forms (mCons (M.frz (mCallB fLen (mKCons (mPk 0) mKNil))) mNil)))))) (sRet (M.vl (mC .non))) sNil) (sSeq (sPars [3, 4, 5] (rCons (mCall0 m_names_for (mCons (mVar 0) mNil)) (rCons (M.vl (mVar 1)) (rCons (mLst mNil) rNil)))) (sSeq (sFor (mItA (M.frz (mRevL (mPk 3)))) (tgN 2) p_nth_form_2) (sRet (mCallB fTuple (mKCons (mK (M.frz (mRevL (mPk 5)))) mKNil))))))
def m_nth_form : MF := (mDef 2 8 e_nth_form)
def p_all_forms_1 : M D := (M.frz (mCall0 m_nth_form (mCons (mVar 0) (mCons (mVar 1) mNil))))
abbrev e_all_forms : M Fl := (sRet (mLC [1] (mRng1 (mCons (M.frz (mCall0 m_how_many_forms (mCons (M.frz (mCallB fLen (mKCons (mPk 0) mKNil))) mNil))) mNil)) (tgN 1) mYes p_all_forms_1))
def m_all_forms : MF := (mDef 1 2 e_all_forms)
abbrev e_swap_row : M Fl := (sRet (mOp dAdd (mK (M.frz (mOp dAdd (mK (M.frz (mOp dAdd (mK (M.frz (mCall0 m_undone (mCons (mVar 0) mNil)))) (mK (M.frz (mCall0 m_undone (mCons (mVar 1) mNil))))))) (mPk 0)))) (mPk 1)))
def m_swap_row : MF := (mDef 2 2 e_swap_row)
abbrev e_swap_two : M Fl := (sRet (mCall0 m_product (mCons (M.frz (mCall0 m_product (mCons (M.frz (mCall0 m_power (mCons (mVar 0) (mCons (mC (.int 2)) mNil)))) (mCons (M.frz (mCall0 m_power (mCons (mVar 1) (mCons (mC (.int 2)) mNil)))) mNil)))) (mCons (M.frz (mCall0 m_product (mCons (mVar 0) (mCons (mVar 1) mNil)))) mNil))))
def m_swap_two : MF := (mDef 2 2 e_swap_two)
def p_swap_of_1 : M Fl := (sSet 2 (mCall0 m_swap_two (mCons (mVar 2) (mCons (mVar 3) mNil))))
abbrev e_swap_of : M Fl := (sSeq (sSet 1 (mCall0 m_tupled (mCons (mVar 0) mNil))) (sSeq (sSet 2 (M.vl (mOpV dIx (mPk 1) (mK (mC (.int 0)))))) (sSeq (sFor (mItA (M.frz (mSl (mPk 1) (mPart (mC (.int 1))) mNoP))) (tgN 3) p_swap_of_1) (sRet (M.vl (mVar 2))))))
def m_swap_of : MF := (mDef 1 4 e_swap_of)
abbrev e__law_swapped : M Fl := (sRet (mOp dAdd (mK (M.frz (mOp dAdd (mK (M.frz (mOp dAdd (mK (M.frz (mCall0 m__law_back (mCons (mVar 0) mNil)))) (mK (M.frz (mCall0 m__law_back (mCons (mVar 1) mNil))))))) (mPk 0)))) (mPk 1)))
def m__law_swapped : MF := (mDef 2 2 e__law_swapped)
abbrev e_do_commute : M Fl := (sRet (mCall0 m_alike (mCons (M.frz (mOp dAdd (mPk 0) (mPk 1))) (mCons (M.frz (mOp dAdd (mPk 1) (mPk 0))) mNil))))
def m_do_commute : MF := (mDef 2 2 e_do_commute)
def p_commuting_letters_1 : M Bool := (mBl (M.frz (mCall0 m_do_commute (mCons (mVar 0) (mCons (mVar 1) mNil)))))
abbrev e_commuting_letters : M Fl := (sRet (M.vl (mM1 dJoin (mK (mC (.str []))) (mK (M.frz (mLC [1] (mItA (mC (.str [97, 98, 99, 100, 101, 102, 103, 104]))) (tgN 1) p_commuting_letters_1 (mVar 1)))))))
def m_commuting_letters : MF := (mDef 1 2 e_commuting_letters)
abbrev e_is_still : M Fl := (sSeq (sAsg (M.frz (mCall0 m_form_of (mCons (mVar 0) mNil))) (tgT [1, 2, 3])) (sRet (M.vl (mAndV (mB (mCmp dEq (mK (M.frz (mCallB fLen (mKCons (mPk 1) mKNil)))) (mK (mC (.int 0))))) (mB (mCmp dEq (mK (M.frz (mCallB fLen (mKCons (mPk 2) mKNil)))) (mK (mC (.int 0)))))))))
def m_is_still : MF := (mDef 1 4 e_is_still)
abbrev e_turned_row : M Fl := (sRet (mOp dAdd (mK (M.frz (mOp dAdd (mK (M.frz (mCall0 m_undone (mCons (mVar 1) mNil)))) (mPk 0)))) (mPk 1)))
def m_turned_row : MF := (mDef 2 2 e_turned_row)
abbrev e_turned_form : M Fl := (sRet (mCall0 m_product (mCons (M.frz (mCall0 m_product (mCons (M.frz (mCall0 m_power (mCons (mVar 1) (mCons (mC (.int 2)) mNil)))) (mCons (mVar 0) mNil)))) (mCons (mVar 1) mNil))))
def m_turned_form : MF := (mDef 2 2 e_turned_form)
def p__law_some_1 : M Fl := (sSeq (sSet 5 (mCall0 m__law_of (mCons (mVar 0) (mCons (mVar 1) mNil)))) (sSet 3 (mOp dAdd (mPk 3) (mK (mIf (mCmp dGt (mK (M.frz (mCall0 m__law_take (mCons (mVar 0) (mCons (mC (.int 3)) mNil))))) (mK (mC (.int 0)))) (mVar 5) (mM0 uppD (mPk 5)))))))
abbrev e__law_some : M Fl := (sSeq (sSet 3 (M.vl (mC (.str [])))) (sSeq (sFor (mRng1 (mCons (mIf (mCmp dNe (mPk 1) (mK (mC (.str [])))) (M.frz (mCall0 m__law_take (mCons (mVar 0) (mCons (M.frz (mOp dAdd (mPk 2) (mK (mC (.int 1))))) mNil)))) (mC (.int 0))) mNil)) (tgN 4) p__law_some_1) (sRet (M.vl (mVar 3)))))
def m__law_some : MF := (mDef 3 6 e__law_some)
abbrev e_is_turner : M Fl := (sRet (M.vl (mAndV (M.frz (mCall0 m_is_row (mCons (mVar 2) mNil))) (M.frz (mCall0 m_alike (mCons (M.frz (mCall0 m_turned_row (mCons (mVar 0) (mCons (mVar 2) mNil)))) (mCons (mVar 1) mNil)))))))
def m_is_turner : MF := (mDef 3 3 e_is_turner)
abbrev e_is_name : M Fl := (sRet (M.vl (mAndV (M.frz (mCallB fIsi (mKCons (mPk 0) (mKCons (mK (mC (.typ "str"))) mKNil)))) (mAndV (mB (mCmp dEq (mK (M.frz (mCallB fLen (mKCons (mPk 0) mKNil)))) (mK (mC (.int 1))))) (mB (mCmp dIn (mPk 0) (mK (mC (.str [97, 98, 99, 100, 101, 102, 103, 104, 105, 106, 107, 108, 109, 110, 111, 112, 113, 114, 115, 116, 117, 118, 119, 120, 121, 122])))))))))
def m_is_name : MF := (mDef 1 1 e_is_name)
def p_is_numbers_1 : M D := (mAndV (M.frz (mCallB fIsi (mKCons (mPk 3) (mKCons (mK (mC (.typ "tuple"))) mKNil)))) (mB (mCmp dEq (mK (M.frz (mCallB fLen (mKCons (mPk 3) mKNil)))) (mK (mC (.int 2))))))
def p_is_numbers_2 : M D := (mAndV (M.frz (mCall0 m_is_name (mCons (mVar 1) mNil))) (M.frz (mCall0 m_is_number (mCons (mVar 2) mNil))))
abbrev e_is_numbers : M Fl := (sSeq (sIf (mOr (mNot (mBl (M.frz (mCallB fIsi (mKCons (mPk 0) (mKCons (mK (mC (.typ "tuple"))) mKNil)))))) (mNot (mBl (M.frz (mCallB fAll (mKCons (mK (M.frz (mLC [3] (mItA (mVar 0)) (tgN 3) mYes p_is_numbers_1))) mKNil)))))) (sRet (M.vl (mC (.bl false)))) sNil) (sSeq (sIf (mNot (mBl (M.frz (mCallB fAll (mKCons (mK (M.frz (mLC [1, 2] (mItA (mVar 0)) (tgT [1, 2]) mYes p_is_numbers_2))) mKNil))))) (sRet (M.vl (mC (.bl false)))) sNil) (sRet (mCall0 m_rises (mCons (M.frz (mLC [1, 2] (mItA (mVar 0)) (tgT [1, 2]) mYes (mVar 1))) mNil)))))
def m_is_numbers : MF := (mDef 1 4 e_is_numbers)
def p__law_parts_1 : M D := (M.frz (mCall0 m__law_of (mCons (mVar 0) (mCons (mC (.str [97, 98, 99, 65, 66, 67])) mNil))))
def p__law_parts_2 : M Fl := (sSeq (sSet 5 (M.vl (mM1 dJoin (mK (mC (.str []))) (mK (M.frz (mLC [6] (mRng1 (mCons (M.frz (mCall0 m__law_take (mCons (mVar 0) (mCons (mC (.int 5)) mNil)))) mNil)) (tgN 6) mYes p__law_parts_1)))))) (sDrop (M.vl (mApp (mPk 3) (mTup (mCons (mVar 5) (mCons (M.frz (mCall0 m__law_of (mCons (mVar 0) (mCons (M.frz (mOp dAdd (mK (M.frz (mLst (mCons (mC (.str [])) mNil)))) (mK (M.frz (mCallB fList (mKCons (mPk 1) mKNil)))))) mNil)))) mNil)))))))
abbrev e__law_parts : M Fl := (sSeq (sSet 3 (mLst mNil)) (sSeq (sFor (mRng1 (mCons (M.frz (mCall0 m__law_take (mCons (mVar 0) (mCons (M.frz (mOp dAdd (mPk 2) (mK (mC (.int 1))))) mNil)))) mNil)) (tgN 4) p__law_parts_2) (sRet (mCallB fTuple (mKCons (mPk 3) mKNil)))))
def m__law_parts : MF := (mDef 3 7 e__law_parts)
def p__law_led_1 : M Fl := (sSeq (sSet 5 (mIf (mCmp dNe (mPk 4) (mK (mC (.str [])))) (M.vl (M.alt (mOpV dIx (mPk 1) (mPk 4)) (mOpV dGet (mPk 1) (mPk 4)))) (M.vl (mC (.int 1))))) (sSet 2 (mOp dAdd (mPk 2) (mK (mIf (mCmp dGe (mPk 5) (mK (mC (.int 0)))) (M.frz (mOp dMul (mPk 3) (mPk 5))) (M.frz (mOp dMul (mK (M.frz (mCall0 m__law_back (mCons (mVar 3) mNil)))) (mK (M.frz (mCallB fAbs (mKCons (mPk 5) mKNil)))))))))))
abbrev e__law_led : M Fl := (sSeq (sSet 2 (M.vl (mC (.str [])))) (sSeq (sFor (mItA (mVar 0)) (tgT [3, 4]) p__law_led_1) (sRet (M.vl (mVar 2)))))
def m__law_led : MF := (mDef 2 6 e__law_led)
def p__law_rests_1 : M D := (M.frz (mOp dAdd (mPk 4) (mK (mTup (mCons (mTup (mCons (mVar 2) (mCons (mVar 5) mNil))) mNil)))))
def p__law_rests_2 : M Fl := (sSet 3 (mOp dAdd (mPk 3) (mK (M.frz (mLC [5] (mRng1 (mCons (mC (.int 3)) mNil)) (tgN 5) mYes p__law_rests_1)))))
def p__law_rests_3 : M Fl := (sSeq (sSet 3 (mLst mNil)) (sSeq (sFor (mItA (mVar 1)) (tgN 4) p__law_rests_2) (sSet 1 (M.vl (mVar 3)))))
abbrev e__law_rests : M Fl := (sSeq (sSet 1 (mLst (mCons (mTup mNil) mNil))) (sSeq (sFor (mItA (mVar 0)) (tgN 2) p__law_rests_3) (sRet (M.vl (mVar 1)))))
def m__law_rests : MF := (mDef 1 6 e__law_rests)
def p_paper_back_1 : M D := (mTup (mCons (mVar 1) (mCons (mVar 2) (mCons (mNeg (mVar 3)) mNil))))
abbrev e_paper_back : M Fl := (sRet (mCallB fTuple (mKCons (mK (M.frz (mLC [1, 2, 3] (mItA (M.frz (mRevL (mPk 0)))) (tgT [1, 2, 3]) mYes p_paper_back_1))) mKNil)))
def m_paper_back : MF := (mDef 1 4 e_paper_back)
def p__law_triple_1 : M Fl := (sIf (mCmp dEq (mPk 1) (mK (mC (.str [97])))) (sSet 2 (mOp dAdd (mPk 2) (mK (mC (.int 1))))) (sPars [3, 4] (rCons (mOp dAdd (mPk 3) (mK (mC (.int 1)))) (rCons (mOp dAdd (mPk 4) (mPk 2)) rNil))))
abbrev e__law_triple : M Fl := (sSeq (sPars [2, 3, 4] (rCons (M.vl (mC (.int 0))) (rCons (M.vl (mC (.int 0))) (rCons (M.vl (mC (.int 0))) rNil)))) (sSeq (sFor (mItA (M.frz (mCall0 m__law_plain (mCons (mVar 0) mNil)))) (tgN 1) p__law_triple_1) (sRet (M.vl (mTup (mCons (M.frz (mOp dMod (mPk 2) (mK (mC (.int 3))))) (mCons (M.frz (mOp dMod (mPk 3) (mK (mC (.int 3))))) (mCons (M.frz (mOp dMod (mPk 4) (mK (mC (.int 3))))) mNil))))))))
def m__law_triple : MF := (mDef 1 5 e__law_triple)
def p__law_set_in_1 : M Fl := (sIf (mCmp dIn (mK (mM0 lowD (mPk 3))) (mPk 1)) (sSeq (sSet 4 (M.vl (M.alt (mOpV dIx (mPk 1) (mK (mM0 lowD (mPk 3)))) (mOpV dGet (mPk 1) (mK (mM0 lowD (mPk 3))))))) (sSet 2 (mOp dAdd (mPk 2) (mK (mIf (mCmp dIn (mPk 3) (mPk 1)) (mVar 4) (M.frz (mCall0 m__law_back (mCons (mVar 4) mNil)))))))) (sSet 2 (mOp dAdd (mPk 2) (mPk 3))))
abbrev e__law_set_in : M Fl := (sSeq (sSet 2 (M.vl (mC (.str [])))) (sSeq (sFor (mItA (mVar 0)) (tgN 3) p__law_set_in_1) (sRet (M.vl (mVar 2)))))
def m__law_set_in : MF := (mDef 2 5 e__law_set_in)
def p__law_told_letters_1 : M Fl := (sSet 5 (mOp dAdd (mPk 5) (mK (M.frz (mCall0 m__law_of (mCons (mVar 0) (mCons (mC (.str [97, 98, 65, 66])) mNil)))))))
def p__law_told_letters_2 : M Fl := (sSeq (sSet 5 (M.vl (mC (.str [])))) (sSeq (sFor (mRng1 (mCons (M.frz (mCall0 m__law_take (mCons (mVar 0) (mCons (mC (.int 6)) mNil)))) mNil)) (tgN 6) p__law_told_letters_1) (sSeq (sDput (mVar 5) 3 (mVar 2)) (sSeq (sSet 7 (mCall0 m__law_back (mCons (mVar 5) mNil))) (sDrop (M.vl (mApp (mPk 4) (mIf (mCmp dEq (mK (M.frz (mCall0 m__law_take (mCons (mVar 0) (mCons (mC (.int 2)) mNil))))) (mK (mC (.int 0)))) (M.frz (mOp dAdd (mPk 2) (mPk 7))) (M.frz (mOp dAdd (mPk 7) (mPk 2)))))))))))
abbrev e__law_told_letters : M Fl := (sSeq (sPars [3, 4] (rCons mDNew (rCons (mLst mNil) rNil))) (sSeq (sFor (mItA (M.frz (mCallB fSort (mKCons (mK (M.frz (mSl (mK (M.frz (mCall0 m__law_mixed (mCons (mVar 0) (mCons (M.frz (mListS (mC (.str [99, 100, 101, 102, 103, 104])))) mNil))))) mNoP (mPart (mVar 1))))) mKNil)))) (tgN 2) p__law_told_letters_2) (sRet (M.vl (mTup (mCons (mVar 3) (mCons (mVar 4) mNil)))))))
def m__law_told_letters : MF := (mDef 2 8 e__law_told_letters)
def p__law_of_letters_1 : M Fl := (sSeq (sSet 5 (mCall0 m__law_of (mCons (mVar 0) (mCons (mVar 1) mNil)))) (sSet 3 (mOp dAdd (mPk 3) (mK (mIf (mCmp dGt (mK (M.frz (mCall0 m__law_take (mCons (mVar 0) (mCons (mC (.int 3)) mNil))))) (mK (mC (.int 0)))) (mVar 5) (mM0 uppD (mPk 5)))))))
abbrev e__law_of_letters : M Fl := (sSeq (sSet 3 (M.vl (mC (.str [])))) (sSeq (sFor (mRng1 (mCons (M.frz (mCall0 m__law_take (mCons (mVar 0) (mCons (M.frz (mOp dAdd (mPk 2) (mK (mC (.int 1))))) mNil)))) mNil)) (tgN 4) p__law_of_letters_1) (sRet (M.vl (mVar 3)))))
def m__law_of_letters : MF := (mDef 3 6 e__law_of_letters)
abbrev e_how_many_figures : M Fl := (sRet (mOp dAdd (mK (M.frz (mOp dAdd (mPk 0) (mK (M.frz (mOp dFdiv (mK (M.frz (mOp dMul (mPk 0) (mK (M.frz (mOp dSub (mPk 0) (mK (mC (.int 1))))))))) (mK (mC (.int 2))))))))) (mK (M.frz (mOp dFdiv (mK (M.frz (mOp dMul (mK (M.frz (mOp dMul (mPk 0) (mK (M.frz (mOp dSub (mPk 0) (mK (mC (.int 1))))))))) (mK (M.frz (mOp dSub (mPk 0) (mK (mC (.int 2))))))))) (mK (mC (.int 6))))))))
def m_how_many_figures : MF := (mDef 1 1 e_how_many_figures)
def p_is_turned_1 : M D := (mB (mCmp dIn (mPk 3) (mPk 0)))
abbrev e_is_turned : M Fl := (sSeq (sIf (mOr (mNot (mBl (M.frz (mCallB fIsi (mKCons (mPk 2) (mKCons (mK (mC (.typ "tuple"))) mKNil)))))) (mOr (mCmp dNe (mK (M.frz (mCallB fLen (mKCons (mPk 2) mKNil)))) (mK (mC (.int 3)))) (mOr (mNot (mBl (M.frz (mCall0 m_is_number (mCons (mOpV dIx (mPk 2) (mK (mC (.int 0)))) mNil))))) (mNot (mBl (M.frz (mCall0 m_is_number (mCons (mOpV dIx (mPk 2) (mK (mC (.int 2)))) mNil)))))))) (sRet (M.vl (mC (.bl false)))) sNil) (sSeq (sIf (mOr (mNot (mChain dLe dLt (mK (mC (.int 0))) (mK (mOpV dIx (mPk 2) (mK (mC (.int 0))))) (mK (M.frz (mCallB fLen (mKCons (mPk 1) mKNil)))))) (mOr (mCmp dNotIn (mK (mOpV dIx (mPk 2) (mK (mC (.int 2))))) (mK (mTup (mCons (mC (.int 1)) (mCons (mNeg (mC (.int 1))) mNil))))) (mNot (mBl (M.frz (mCall0 m_is_row (mCons (mOpV dIx (mPk 2) (mK (mC (.int 1)))) mNil))))))) (sRet (M.vl (mC (.bl false)))) sNil) (sRet (mCallB fAll (mKCons (mK (M.frz (mLC [3] (mItA (mM0 lowD (mK (mOpV dIx (mPk 2) (mK (mC (.int 1))))))) (tgN 3) mYes p_is_turned_1))) mKNil)))))
def m_is_turned : MF := (mDef 3 4 e_is_turned)
abbrev e_row_text : M Fl := (sRet (mIf (mCmp dNe (mPk 0) (mK (mC (.str [])))) (M.vl (mVar 0)) (M.vl (mC (.str [45])))))
def m_row_text : MF := (mDef 1 1 e_row_text)
def p_sheet_text_1 : M D := (M.frz (mOp dAdd (mK (M.frz (mOp dAdd (mPk 1) (mK (mC (.str [32])))))) (mK (M.frz (mCall0 m_row_text (mCons (mVar 2) mNil))))))
abbrev e_sheet_text : M Fl := (sRet (M.vl (mM1 dJoin (mK (mC (.str [10]))) (mK (M.frz (mLC [1, 2] (mItA (mVar 0)) (tgT [1, 2]) mYes p_sheet_text_1))))))
def m_sheet_text : MF := (mDef 1 3 e_sheet_text)
def p__law_say_1 : M D := (M.frz (mOp dAdd (mK (mOpV dIx (mPk 3) (mK (mC (.int 0))))) (mK (M.frz (mCallB fStr (mKCons (mK (mOpV dIx (mPk 3) (mK (mC (.int 1))))) mKNil))))))
def p__law_say_2 : M Fl := (sSet 1 (mOp dAdd (mPk 1) (mK (M.frz (mLC [3] (mItA (mVar 2)) (tgN 3) mYes p__law_say_1)))))
abbrev e__law_say : M Fl := (sSeq (sSet 1 (mLst mNil)) (sSeq (sFor (mItA (mVar 0)) (tgN 2) p__law_say_2) (sRet (mIf (mCmp dNe (mPk 1) (mK (M.frz (mLst mNil)))) (M.vl (mM1 dJoin (mK (mC (.str [32]))) (mPk 1))) (M.vl (mC (.str [45])))))))
def m__law_say : MF := (mDef 1 4 e__law_say)
end Thr.Sh
end
namespace Thr.K24
open PySem PySem.Spec PyProof.Rows L2 RZ Thr

def top (i : Nat) : Stmt := PySem.Challenge.pw_thricenothing_k24_turned_rows.main.body.getD i (.Pass ⟨0, 0, 0, 0⟩)
abbrev s_tupled : Stmt := top 1
abbrev s_undone : Stmt := top 4
abbrev s_kept : Stmt := top 8
abbrev s_letters_in : Stmt := top 9
abbrev s_rests_of : Stmt := top 10
abbrev s_rest_in : Stmt := top 11
abbrev s_gap : Stmt := top 12
abbrev s_names_for : Stmt := top 13
abbrev s_product : Stmt := top 14
abbrev s_product_of : Stmt := top 15
abbrev s_power : Stmt := top 16
abbrev s_turned_row : Stmt := top 19
abbrev s_turned_form : Stmt := top 20
abbrev s__law_box : Stmt := top 22
abbrev s__law_take : Stmt := top 23
abbrev s__law_cells : Stmt := top 24
abbrev s__law_of : Stmt := top 25
abbrev s__law_lists : Stmt := top 26
abbrev s__law_same : Stmt := top 27
abbrev s__law_mixed : Stmt := top 28
abbrev s__law_row : Stmt := top 29
abbrev s__law_plain : Stmt := top 30
abbrev s__law_back : Stmt := top 31
abbrev s__law_form : Stmt := top 32
abbrev s__law_by_hand_right : Stmt := top 33
abbrev s__law_right : Stmt := top 34
abbrev s_law : Stmt := top 35
structure Tx (K : PySem.W.Frag) (mg : Str → Option Value) : Prop where
  f_tupled : ∃ (f : Addr) (fd : FuncData), Fun K "tupled" "tupled" s_tupled f fd ∧ mg "tupled" = some (.ref f) ∧ L2.Binds K fd ["thing"] []
  f_undone : ∃ (f : Addr) (fd : FuncData), Fun K "undone" "undone" s_undone f fd ∧ mg "undone" = some (.ref f) ∧ L2.Binds K fd ["row"] []
  f_kept : ∃ (f : Addr) (fd : FuncData), Fun K "kept" "kept" s_kept f fd ∧ mg "kept" = some (.ref f) ∧ L2.Binds K fd ["counts"] []
  f_letters_in : ∃ (f : Addr) (fd : FuncData), Fun K "letters_in" "letters_in" s_letters_in f fd ∧ mg "letters_in" = some (.ref f) ∧ L2.Binds K fd ["form"] []
  f_rests_of : ∃ (f : Addr) (fd : FuncData), Fun K "rests_of" "rests_of" s_rests_of f fd ∧ mg "rests_of" = some (.ref f) ∧ L2.Binds K fd ["form"] []
  f_rest_in : ∃ (f : Addr) (fd : FuncData), Fun K "rest_in" "rest_in" s_rest_in f fd ∧ mg "rest_in" = some (.ref f) ∧ L2.Binds K fd ["rests", "name"] []
  f_gap : ∃ (f : Addr) (fd : FuncData), Fun K "gap" "gap" s_gap f fd ∧ mg "gap" = some (.ref f) ∧ L2.Binds K fd ["rests", "one", "other"] []
  f_names_for : ∃ (f : Addr) (fd : FuncData), Fun K "names_for" "names_for" s_names_for f fd ∧ mg "names_for" = some (.ref f) ∧ L2.Binds K fd ["letters"] []
  f_product : ∃ (f : Addr) (fd : FuncData), Fun K "product" "product" s_product f fd ∧ mg "product" = some (.ref f) ∧ L2.Binds K fd ["one", "other"] []
  f_product_of : ∃ (f : Addr) (fd : FuncData), Fun K "product_of" "product_of" s_product_of f fd ∧ mg "product_of" = some (.ref f) ∧ L2.Binds K fd ["forms"] []
  f_power : ∃ (f : Addr) (fd : FuncData), Fun K "power" "power" s_power f fd ∧ mg "power" = some (.ref f) ∧ L2.Binds K fd ["form", "many"] []
  f_turned_row : ∃ (f : Addr) (fd : FuncData), Fun K "turned_row" "turned_row" s_turned_row f fd ∧ mg "turned_row" = some (.ref f) ∧ L2.Binds K fd ["row", "by"] []
  f_turned_form : ∃ (f : Addr) (fd : FuncData), Fun K "turned_form" "turned_form" s_turned_form f fd ∧ mg "turned_form" = some (.ref f) ∧ L2.Binds K fd ["form", "by"] []
  f__law_box : ∃ (f : Addr) (fd : FuncData), Fun K "_law_box" "_law_box" s__law_box f fd ∧ mg "_law_box" = some (.ref f) ∧ L2.Binds K fd ["_law_script", "_law_k"] []
  f__law_take : ∃ (f : Addr) (fd : FuncData), Fun K "_law_take" "_law_take" s__law_take f fd ∧ mg "_law_take" = some (.ref f) ∧ L2.Binds K fd ["_law_box_here", "_law_below_so"] []
  f__law_cells : ∃ (f : Addr) (fd : FuncData), Fun K "_law_cells" "_law_cells" s__law_cells f fd ∧ mg "_law_cells" = some (.ref f) ∧ L2.Binds K fd ["_law_script", "_law_most_so"] []
  f__law_of : ∃ (f : Addr) (fd : FuncData), Fun K "_law_of" "_law_of" s__law_of f fd ∧ mg "_law_of" = some (.ref f) ∧ L2.Binds K fd ["_law_box_here", "_law_pool_so"] []
  f__law_lists : ∃ (f : Addr) (fd : FuncData), Fun K "_law_lists" "_law_lists" s__law_lists f fd ∧ mg "_law_lists" = some (.ref f) ∧ L2.Binds K fd ["_law_matter"] []
  f__law_same : ∃ (f : Addr) (fd : FuncData), Fun K "_law_same" "_law_same" s__law_same f fd ∧ mg "_law_same" = some (.ref f) ∧ L2.Binds K fd ["_law_got", "_law_due_so"] []
  f__law_mixed : ∃ (f : Addr) (fd : FuncData), Fun K "_law_mixed" "_law_mixed" s__law_mixed f fd ∧ mg "_law_mixed" = some (.ref f) ∧ L2.Binds K fd ["_law_box_here", "_law_rows_so"] []
  f__law_row : ∃ (f : Addr) (fd : FuncData), Fun K "_law_row" "_law_row" s__law_row f fd ∧ mg "_law_row" = some (.ref f) ∧ L2.Binds K fd ["_law_box_here", "_law_many_so", "_law_long_so"] []
  f__law_plain : ∃ (f : Addr) (fd : FuncData), Fun K "_law_plain" "_law_plain" s__law_plain f fd ∧ mg "_law_plain" = some (.ref f) ∧ L2.Binds K fd ["_law_row_so"] []
  f__law_back : ∃ (f : Addr) (fd : FuncData), Fun K "_law_back" "_law_back" s__law_back f fd ∧ mg "_law_back" = some (.ref f) ∧ L2.Binds K fd ["_law_row_so"] []
  f__law_form : ∃ (f : Addr) (fd : FuncData), Fun K "_law_form" "_law_form" s__law_form f fd ∧ mg "_law_form" = some (.ref f) ∧ L2.Binds K fd ["_law_row_so"] []
  f__law_by_hand_right : ∃ (f : Addr) (fd : FuncData), Fun K "_law_by_hand_right" "_law_by_hand_right" s__law_by_hand_right f fd ∧ mg "_law_by_hand_right" = some (.ref f) ∧ L2.Binds K fd [] []
  f__law_right : ∃ (f : Addr) (fd : FuncData), Fun K "_law_right" "_law_right" s__law_right f fd ∧ mg "_law_right" = some (.ref f) ∧ L2.Binds K fd ["_law_box_here"] []
  f_law : ∃ (f : Addr) (fd : FuncData), Fun K "law" "law" s_law f fd ∧ mg "law" = some (.ref f) ∧ L2.Binds K fd ["_law_script"] []
  b_abs : mg "abs" = none
  b_all : mg "all" = none
  b_bool : mg "bool" = none
  b_enumerate : mg "enumerate" = none
  b_int : mg "int" = none
  b_isinstance : mg "isinstance" = none
  b_len : mg "len" = none
  b_list : mg "list" = none
  b_range : mg "range" = none
  b_set : mg "set" = none
  b_sorted : mg "sorted" = none
  b_str : mg "str" = none
  b_tuple : mg "tuple" = none
  b_zip : mg "zip" = none
  c_NOTHING : ∃ a, mg "NOTHING" = some (.ref a) ∧ ∀ (F : Hp) (A : List Addr), R K F A (.tup [.tup [], .tup [], .tup []]) (.ref a)
  c_LETTERS : ∃ u, mg "LETTERS" = some u ∧ RelV (.str (mkS [97, 98, 99, 100, 101, 102, 103, 104])) u
  c_THREE : ∃ u, mg "THREE" = some u ∧ RelV (.int 3) u
  c_TWICE : ∃ u, mg "TWICE" = some u ∧ RelV (.int 2) u
noncomputable section
variable {prog : Program} {w : World} {K : PySem.W.Frag} {mg : Str → Option Value} {base : Heap}
abbrev i_tupled : Nat → MF := Sh.i_tupled
abbrev m_tupled : MF := Sh.m_tupled
theorem sc_tupled : FnScope ["thing", "own"] ["thing"] (defScope s_tupled) := ⟨rfl, rfl, rfl, by decide +kernel, rfl, by decide +kernel, by decide +kernel⟩
theorem d_tupled (T : Tx K mg) : Def0 prog w K mg base "tupled" 9 ["thing"] m_tupled := by
  obtain ⟨f, fd, F, hm, hb⟩ := T.f_tupled
  have gen : ∀ n, Def0 prog w K mg base "tupled" (n + 1) ["thing"] (i_tupled n) := by
    intro n
    induction n with
    | zero => exact def0_bad F sc_tupled hm hb
    | succ n ih =>
      refine def0_ok (N := ["thing", "own"]) (ps := ["thing"]) (k := n + 1) (m := (sRet (mIf (mBl (mIsiT ["list", "tuple"] (mPk 0))) (mCallB fTuple (mKCons (mK (M.frz (mLC [1] (mItA (mVar 0)) (tgN 1) mYes (Sh.p_tupled_1 (Sh.i_tupled n))))) mKNil)) (M.vl (mVar 0))))) F sc_tupled hm hb fun F0 A0 H0 => ?_
      exact (dss_one (ds_ret (do_if (dt_val (de_isiT (hm := T.b_isinstance) (ha := (dk_pk 0)) (ht := (dty_cons (hm := T.b_list) (h := (dty_cons (hm := T.b_tuple) (h := dty_nil))))) (hz := by decide))) (do_callTy hr_tuple cl_tuple (hm := T.b_tuple) (ha := (dks_cons (DK.of (DE.of (do_lc (own := [("own", 1)]) (hi := (di_any (de_var 0))) (hg := (dg_name 1)) (h1 := dts_nil) (h2 := (DE.of (do_call (F := ih) (ha := (da_cons (de_var 1) da_nil)))))))) dks_nil))) (DO.of (de_var 0)))))
  exact gen 8
abbrev e_undone : M Fl := Sh.e_undone
abbrev m_undone : MF := Sh.m_undone
theorem sc_undone : FnScope ["row", "own"] ["row"] (defScope s_undone) := ⟨rfl, rfl, rfl, by decide +kernel, rfl, by decide +kernel, by decide +kernel⟩
theorem d_undone (T : Tx K mg) : Def0 prog w K mg base "undone" 1 ["row"] m_undone := by
  obtain ⟨u_LETTERS, g_LETTERS⟩ := T.c_LETTERS
  obtain ⟨f, fd, F, hm, hb⟩ := T.f_undone
  exact (def0_ok (N := ["row", "own"]) (ps := ["row"]) (k := 0) (m := e_undone) F sc_undone hm hb fun F0 A0 H0 => (dss_one (ds_ret (DO.of (de_join (hn := by rfl) (ho := (DK.of (de_str (s := []) (by rfl)))) (he := (DK.of (DE.of (do_lc (own := [("own", 1)]) (hi := (di_any (de_revS (dk_pk 0)))) (hg := (dg_name 1)) (h1 := dts_nil) (h2 := (de_if (dt_cmp hr_in cs_in (dk_pk 1) (DK.of (de_glob (hm := g_LETTERS.1) (r := g_LETTERS.2) (hr := fun _ _ => R_str.mpr rfl)))) (de_upper (hn := by rfl) (ho := (dk_pk 1)) ) (de_lower (hn := by rfl) (ho := (dk_pk 1)) ))))))))))))
abbrev e_kept : M Fl := Sh.e_kept
abbrev m_kept : MF := Sh.m_kept
theorem sc_kept : FnScope ["counts", "own", "many"] ["counts"] (defScope s_kept) := ⟨rfl, rfl, rfl, by decide +kernel, rfl, by decide +kernel, by decide +kernel⟩
theorem d_kept (T : Tx K mg) : Def0 prog w K mg base "kept" 1 ["counts"] m_kept := by
  obtain ⟨u_THREE, g_THREE⟩ := T.c_THREE
  obtain ⟨f, fd, F, hm, hb⟩ := T.f_kept
  exact (def0_ok (N := ["counts", "own", "many"]) (ps := ["counts"]) (k := 0) (m := e_kept) F sc_kept hm hb fun F0 A0 H0 => (dss_one (ds_ret (do_callTy hr_tuple cl_tuple (hm := T.b_tuple) (ha := (dks_cons (DK.of (DE.of (do_callB hr_sortT cl_sortT (hm := T.b_sorted) (ha := (dks_cons (DK.of (DE.of (do_lc (own := [("own", 1), ("many", 2)]) (hi := (di_any (de_var 0))) (hg := (dg_tup (dgs_cons 1 (h := (dgs_cons 2 (h := dgs_nil)))))) (h1 := (dts_one (dt_cmp hr_ne cs_ne (DK.of (DE.of (do_op hr_mod os_mod (dk_pk 2) (DK.of (de_glob (hm := g_THREE.1) (r := g_THREE.2) (hr := fun _ _ => R_int.mpr rfl)))))) (DK.of de_int)))) (h2 := (de_tup (da_cons (de_var 1) (da_cons (DE.of (do_op hr_mod os_mod (dk_pk 2) (DK.of (de_glob (hm := g_THREE.1) (r := g_THREE.2) (hr := fun _ _ => R_int.mpr rfl))))) da_nil))))))) dks_nil))))) dks_nil))))))
abbrev e_letters_in : M Fl := Sh.e_letters_in
abbrev m_letters_in : MF := Sh.m_letters_in
theorem sc_letters_in : FnScope ["form", "part", "own"] ["form"] (defScope s_letters_in) := ⟨rfl, rfl, rfl, by decide +kernel, rfl, by decide +kernel, by decide +kernel⟩
theorem d_letters_in (T : Tx K mg) : Def0 prog w K mg base "letters_in" 1 ["form"] m_letters_in := by
  obtain ⟨f, fd, F, hm, hb⟩ := T.f_letters_in
  exact (def0_ok (N := ["form", "part", "own"]) (ps := ["form"]) (k := 0) (m := e_letters_in) F sc_letters_in hm hb fun F0 A0 H0 => (dss_one (ds_ret (DO.of (de_join (hn := by rfl) (ho := (DK.of (de_str (s := []) (by rfl)))) (he := (DK.of (DE.of (do_sset (hm := T.b_sorted) (hm2 := T.b_set) (h := (de_join (hn := by rfl) (ho := (DK.of (de_str (s := []) (by rfl)))) (he := (DK.of (DE.of (do_lc2 [2] (own := [("part", 1), ("own", 2)]) (hi := (di_any (de_var 0))) (hg := (dg_name 1)) (h1 := dts_nil) (hi1 := (di_any (de_var 1))) (hg1 := (dg_name 2)) (h1' := dts_nil) (h2 := (de_ix (dk_pk 2) (DK.of de_int))))))))))))))))))
abbrev e_rests_of : M Fl := Sh.e_rests_of
abbrev m_rests_of : MF := Sh.m_rests_of
theorem sc_rests_of : FnScope ["form", "part", "own", "rest"] ["form"] (defScope s_rests_of) := ⟨rfl, rfl, rfl, by decide +kernel, rfl, by decide +kernel, by decide +kernel⟩
theorem d_rests_of (T : Tx K mg) : Def0 prog w K mg base "rests_of" 1 ["form"] m_rests_of := by
  obtain ⟨f, fd, F, hm, hb⟩ := T.f_rests_of
  exact (def0_ok (N := ["form", "part", "own", "rest"]) (ps := ["form"]) (k := 0) (m := e_rests_of) F sc_rests_of hm hb fun F0 A0 H0 => (dss_one (ds_ret (do_dc2 [2, 3] (own := [("part", 1), ("own", 2), ("rest", 3)]) (hi := (di_any (de_var 0))) (hg := (dg_name 1)) (h1 := dts_nil) (hi1 := (di_any (de_var 1))) (hg1 := (dg_eit (dgs_cons 2 (h := (dgs_cons 3 (h := dgs_nil)))))) (h1' := dts_nil) (h2 := (de_var 2)) (h3 := (de_var 3))))))
abbrev e_rest_in : M Fl := Sh.e_rest_in
abbrev m_rest_in : MF := Sh.m_rest_in
theorem sc_rest_in : FnScope ["rests", "name"] ["rests", "name"] (defScope s_rest_in) := ⟨rfl, rfl, rfl, by decide +kernel, rfl, by decide +kernel, by decide +kernel⟩
theorem d_rest_in (T : Tx K mg) : Def0 prog w K mg base "rest_in" 1 ["rests", "name"] m_rest_in := by
  obtain ⟨f, fd, F, hm, hb⟩ := T.f_rest_in
  exact (def0_ok (N := ["rests", "name"]) (ps := ["rests", "name"]) (k := 0) (m := e_rest_in) F sc_rest_in hm hb fun F0 A0 H0 => (dss_one (ds_ret (DO.of (de_get2 (ho := (dk_pk 0)) (hk := (de_var 1)) (hx := de_int))))))
abbrev e_gap : M Fl := Sh.e_gap
abbrev m_gap : MF := Sh.m_gap
theorem sc_gap : FnScope ["rests", "one", "other"] ["rests", "one", "other"] (defScope s_gap) := ⟨rfl, rfl, rfl, by decide +kernel, rfl, by decide +kernel, by decide +kernel⟩
theorem d_gap (T : Tx K mg) : Def0 prog w K mg base "gap" 2 ["rests", "one", "other"] m_gap := by
  obtain ⟨f, fd, F, hm, hb⟩ := T.f_gap
  exact (def0_ok (N := ["rests", "one", "other"]) (ps := ["rests", "one", "other"]) (k := 1) (m := e_gap) F sc_gap hm hb fun F0 A0 H0 => (dss_one (ds_ret (do_op hr_sub os_sub (DK.of (DE.of (do_op hr_mul os_mul (DK.of de_int) (DK.of (DE.of (do_call (F := d_rest_in T) (ha := (da_cons (de_var 0) (da_cons (DE.of (do_op hr_add os_add (dk_pk 1) (dk_pk 2))) da_nil))))))))) (DK.of (DE.of (do_op hr_mul os_mul (DK.of (DE.of (do_call (F := d_rest_in T) (ha := (da_cons (de_var 0) (da_cons (de_var 1) da_nil)))))) (DK.of (DE.of (do_call (F := d_rest_in T) (ha := (da_cons (de_var 0) (da_cons (de_var 2) da_nil)))))))))))))
abbrev e_names_for : M Fl := Sh.e_names_for
abbrev m_names_for : MF := Sh.m_names_for
theorem sc_names_for : FnScope ["letters", "twos", "one", "two", "six"] ["letters"] (defScope s_names_for) := ⟨rfl, rfl, rfl, by decide +kernel, rfl, by decide +kernel, by decide +kernel⟩
theorem d_names_for (T : Tx K mg) : Def0 prog w K mg base "names_for" 1 ["letters"] m_names_for := by
  obtain ⟨f, fd, F, hm, hb⟩ := T.f_names_for
  exact (def0_ok (N := ["letters", "twos", "one", "two", "six"]) (ps := ["letters"]) (k := 0) (m := e_names_for) F sc_names_for hm hb fun F0 A0 H0 => (dss_cons (ds_setLc2 1 [3] (own := [("one", 2), ("two", 3)]) (hi := (di_any (de_var 0))) (hg := (dg_name 2)) (h1 := dts_nil) (hi1 := (di_any (de_var 0))) (hg1 := (dg_name 3)) (h1' := (dts_one (dt_cmp hr_lt cs_lt (dk_pk 2) (dk_pk 3)))) (h2 := (DE.of (do_op hr_add os_add (dk_pk 2) (dk_pk 3))))) (dss_one (ds_ret (do_lst (da_cons (DE.of (do_listS (hm := T.b_list) (h := (de_var 0)))) (da_cons (de_var 1) (da_cons (DE.of (do_lc2 [4] (own := [("two", 3), ("six", 4)]) (hi := (di_any (de_var 1))) (hg := (dg_name 3)) (h1 := dts_nil) (hi1 := (di_any (de_var 0))) (hg1 := (dg_name 4)) (h1' := (dts_one (dt_cmp hr_lt cs_lt (DK.of (de_ix (dk_pk 3) (DK.of de_int))) (dk_pk 4)))) (h2 := (DE.of (do_op hr_add os_add (dk_pk 3) (dk_pk 4)))))) da_nil))))))))
abbrev e_product : M Fl := Sh.e_product
abbrev m_product : MF := Sh.m_product
theorem sc_product : FnScope ["one", "other", "found", "own", "near", "far", "singles", "twos", "threes", "over", "first", "second", "third", "part"] ["one", "other"] (defScope s_product) := ⟨rfl, rfl, rfl, by decide +kernel, rfl, by decide +kernel, by decide +kernel⟩
theorem d_product (T : Tx K mg) : Def0 prog w K mg base "product" 3 ["one", "other"] m_product := by
  obtain ⟨f, fd, F, hm, hb⟩ := T.f_product
  exact (def0_ok (N := ["one", "other", "found", "own", "near", "far", "singles", "twos", "threes", "over", "first", "second", "third", "part"]) (ps := ["one", "other"]) (k := 2) (m := e_product) F sc_product hm hb fun F0 A0 H0 => (dss_cons (ds_parT (ha := (dr_cons (do_call (F := d_rests_of T) (ha := (da_cons (de_var 0) da_nil))) (dr_cons (do_call (F := d_rests_of T) (ha := (da_cons (de_var 1) da_nil))) dr_nil))) (hn := (dn_cons 4 (h := (dn_cons 5 (h := dn_nil)))))) (dss_cons (ds_asg (dg_lst (dgs_cons 6 (h := (dgs_cons 7 (h := (dgs_cons 8 (h := dgs_nil))))))) (DE.of (do_call (F := d_names_for T) (ha := (da_cons (de_join (hn := by rfl) (ho := (DK.of (de_str (s := []) (by rfl)))) (he := (DK.of (DE.of (do_sset (hm := T.b_sorted) (hm2 := T.b_set) (h := (DE.of (do_op hr_add os_add (DK.of (DE.of (do_call (F := d_letters_in T) (ha := (da_cons (de_var 0) da_nil))))) (DK.of (DE.of (do_call (F := d_letters_in T) (ha := (da_cons (de_var 1) da_nil))))))))))))) da_nil))))) (dss_cons (ds_set 2 (h := (do_ow2 (dl_cons (do_lc (own := [("own", 3)]) (hi := (di_any (de_var 6))) (hg := (dg_name 3)) (h1 := dts_nil) (h2 := (de_tup (da_cons (de_var 3) (da_cons (DE.of (do_op hr_add os_add (DK.of (DE.of (do_call (F := d_rest_in T) (ha := (da_cons (de_var 4) (da_cons (de_var 3) da_nil)))))) (DK.of (DE.of (do_call (F := d_rest_in T) (ha := (da_cons (de_var 5) (da_cons (de_var 3) da_nil)))))))) da_nil))))) (dl_cons (do_lst da_nil) (dl_cons (do_lst da_nil) dl_nil)))))) (dss_cons (ds_for (hi := (di_any (de_var 7))) (hg := (dg_name 3)) (hb := (dss_cons (ds_set 9 (h := (do_op hr_mul os_mul (DK.of (DE.of (do_call (F := d_rest_in T) (ha := (da_cons (de_var 4) (da_cons (de_ix (dk_pk 3) (DK.of de_int)) da_nil)))))) (DK.of (DE.of (do_call (F := d_rest_in T) (ha := (da_cons (de_var 5) (da_cons (de_ix (dk_pk 3) (DK.of de_int)) da_nil))))))))) (dss_one (ds_app2 (k := 1) 2 (hkk := kk_int) (he := (de_tup (da_cons (de_var 3) (da_cons (DE.of (do_op hr_add os_add (DK.of (DE.of (do_op hr_add os_add (DK.of (DE.of (do_call (F := d_rest_in T) (ha := (da_cons (de_var 4) (da_cons (de_var 3) da_nil)))))) (DK.of (DE.of (do_call (F := d_rest_in T) (ha := (da_cons (de_var 5) (da_cons (de_var 3) da_nil))))))))) (dk_pk 9))) da_nil))))))))) (dss_cons (ds_for (hi := (di_any (de_var 8))) (hg := (dg_name 3)) (hb := (dss_cons (ds_asg (dg_str (dgs_cons 10 (h := (dgs_cons 11 (h := (dgs_cons 12 (h := dgs_nil))))))) (de_var 3)) (dss_cons (ds_set 9 (h := (do_op hr_mul os_mul (DK.of (DE.of (do_call (F := d_gap T) (ha := (da_cons (de_var 4) (da_cons (de_var 10) (da_cons (de_var 11) da_nil))))))) (DK.of (DE.of (do_call (F := d_rest_in T) (ha := (da_cons (de_var 5) (da_cons (de_var 12) da_nil))))))))) (dss_cons (ds_aug 9 (hp := fun _ => iop_add) (ho := ag_add) (h := (DE.of (do_op hr_mul os_mul (DK.of (DE.of (do_call (F := d_rest_in T) (ha := (da_cons (de_var 4) (da_cons (de_var 10) da_nil)))))) (DK.of (DE.of (do_call (F := d_rest_in T) (ha := (da_cons (de_var 5) (da_cons (DE.of (do_op hr_add os_add (dk_pk 11) (dk_pk 12))) da_nil)))))))))) (dss_cons (ds_aug 9 (hp := fun _ => iop_sub) (ho := ag_sub) (h := (DE.of (do_op hr_mul os_mul (DK.of (DE.of (do_call (F := d_rest_in T) (ha := (da_cons (de_var 4) (da_cons (de_var 11) da_nil)))))) (DK.of (DE.of (do_call (F := d_rest_in T) (ha := (da_cons (de_var 5) (da_cons (DE.of (do_op hr_add os_add (dk_pk 10) (dk_pk 12))) da_nil)))))))))) (dss_one (ds_app2 (k := 2) 2 (hkk := kk_int) (he := (de_tup (da_cons (de_var 3) (da_cons (DE.of (do_op hr_add os_add (DK.of (DE.of (do_op hr_add os_add (DK.of (DE.of (do_call (F := d_rest_in T) (ha := (da_cons (de_var 4) (da_cons (de_var 3) da_nil)))))) (DK.of (DE.of (do_call (F := d_rest_in T) (ha := (da_cons (de_var 5) (da_cons (de_var 3) da_nil))))))))) (dk_pk 9))) da_nil)))))))))))) (dss_one (ds_ret (do_callTy hr_tuple cl_tuple (hm := T.b_tuple) (ha := (dks_cons (DK.of (DE.of (do_lc (own := [("part", 13)]) (hi := (di_any (de_var 2))) (hg := (dg_name 13)) (h1 := dts_nil) (h2 := (DE.of (do_call (F := d_kept T) (ha := (da_cons (de_var 13) da_nil)))))))) dks_nil)))))))))))
abbrev e_product_of : M Fl := Sh.e_product_of
abbrev m_product_of : MF := Sh.m_product_of
theorem sc_product_of : FnScope ["forms", "found", "form"] ["forms"] (defScope s_product_of) := ⟨rfl, rfl, rfl, by decide +kernel, rfl, by decide +kernel, by decide +kernel⟩
theorem d_product_of (T : Tx K mg) : Def0 prog w K mg base "product_of" 4 ["forms"] m_product_of := by
  obtain ⟨f, fd, F, hm, hb⟩ := T.f_product_of
  exact (def0_ok (N := ["forms", "found", "form"]) (ps := ["forms"]) (k := 3) (m := e_product_of) F sc_product_of hm hb fun F0 A0 H0 => (dss_cons (ds_set 1 (h := (DO.of (de_kon (h := T.c_NOTHING))))) (dss_cons (ds_for (hi := (di_any (de_var 0))) (hg := (dg_name 2)) (hb := (dss_one (ds_set 1 (h := (do_call (F := d_product T) (ha := (da_cons (de_var 1) (da_cons (de_var 2) da_nil))))))))) (dss_one (ds_ret (DO.of (de_var 1)))))))
abbrev e_power : M Fl := Sh.e_power
abbrev m_power : MF := Sh.m_power
theorem sc_power : FnScope ["form", "many"] ["form", "many"] (defScope s_power) := ⟨rfl, rfl, rfl, by decide +kernel, rfl, by decide +kernel, by decide +kernel⟩
theorem d_power (T : Tx K mg) : Def0 prog w K mg base "power" 10 ["form", "many"] m_power := by
  obtain ⟨u_THREE, g_THREE⟩ := T.c_THREE
  obtain ⟨f, fd, F, hm, hb⟩ := T.f_power
  exact (def0_ok (N := ["form", "many"]) (ps := ["form", "many"]) (k := 9) (m := e_power) F sc_power hm hb fun F0 A0 H0 => (dss_one (ds_ret (do_call (F := d_product_of T) (ha := (da_cons (DE.of (do_op hr_mul os_mul (DK.of (DE.of (do_lst (da_cons (DE.of (do_call (F := d_tupled T) (ha := (da_cons (de_var 0) da_nil)))) da_nil)))) (DK.of (DE.of (do_op hr_mod os_mod (dk_pk 1) (DK.of (de_glob (hm := g_THREE.1) (r := g_THREE.2) (hr := fun _ _ => R_int.mpr rfl)))))))) da_nil))))))
abbrev e_turned_row : M Fl := Sh.e_turned_row
abbrev m_turned_row : MF := Sh.m_turned_row
theorem sc_turned_row : FnScope ["row", "by"] ["row", "by"] (defScope s_turned_row) := ⟨rfl, rfl, rfl, by decide +kernel, rfl, by decide +kernel, by decide +kernel⟩
theorem d_turned_row (T : Tx K mg) : Def0 prog w K mg base "turned_row" 2 ["row", "by"] m_turned_row := by
  obtain ⟨f, fd, F, hm, hb⟩ := T.f_turned_row
  exact (def0_ok (N := ["row", "by"]) (ps := ["row", "by"]) (k := 1) (m := e_turned_row) F sc_turned_row hm hb fun F0 A0 H0 => (dss_one (ds_ret (do_op hr_add os_add (DK.of (DE.of (do_op hr_add os_add (DK.of (DE.of (do_call (F := d_undone T) (ha := (da_cons (de_var 1) da_nil))))) (dk_pk 0)))) (dk_pk 1)))))
theorem kb_turned_row_0 (T : Tx K mg) : KB prog w K mg base "turned_row" 2 ["row", "by"] ["by", "row"] 0 [1, 0] m_turned_row := by
  obtain ⟨f, fd, F, hm, hb⟩ := T.f_turned_row
  exact kb_mk (d_turned_row T) F hm (by simp) fun _ _ _ _ _ _ us ws hu hw => match us, ws, hu, hw with | [], [_, _], _, _ => rfl
abbrev e_turned_form : M Fl := Sh.e_turned_form
abbrev m_turned_form : MF := Sh.m_turned_form
theorem sc_turned_form : FnScope ["form", "by"] ["form", "by"] (defScope s_turned_form) := ⟨rfl, rfl, rfl, by decide +kernel, rfl, by decide +kernel, by decide +kernel⟩
theorem d_turned_form (T : Tx K mg) : Def0 prog w K mg base "turned_form" 11 ["form", "by"] m_turned_form := by
  obtain ⟨u_TWICE, g_TWICE⟩ := T.c_TWICE
  obtain ⟨f, fd, F, hm, hb⟩ := T.f_turned_form
  exact (def0_ok (N := ["form", "by"]) (ps := ["form", "by"]) (k := 10) (m := e_turned_form) F sc_turned_form hm hb fun F0 A0 H0 => (dss_one (ds_ret (do_call (F := d_product T) (ha := (da_cons (DE.of (do_call (F := d_product T) (ha := (da_cons (DE.of (do_call (F := d_power T) (ha := (da_cons (de_var 1) (da_cons (de_glob (hm := g_TWICE.1) (r := g_TWICE.2) (hr := fun _ _ => R_int.mpr rfl)) da_nil))))) (da_cons (de_var 0) da_nil))))) (da_cons (de_var 1) da_nil)))))))
theorem kb_turned_form_0 (T : Tx K mg) : KB prog w K mg base "turned_form" 11 ["form", "by"] ["by", "form"] 0 [1, 0] m_turned_form := by
  obtain ⟨f, fd, F, hm, hb⟩ := T.f_turned_form
  exact kb_mk (d_turned_form T) F hm (by simp) fun _ _ _ _ _ _ us ws hu hw => match us, ws, hu, hw with | [], [_, _], _, _ => rfl
abbrev e__law_box : M Fl := (sSeq (sSet 2 (mIf (mCmp dLt (mPk 1) (mK (M.frz (mCallB fLen (mKCons (mPk 0) mKNil))))) (M.vl (mOpV dIx (mPk 0) (mPk 1))) (M.vl (mC (.int 0))))) (sRet (mLst (mCons (M.frz (mOp dMul (mK (M.frz (mCallB fAbs (mKCons (mPk 2) mKNil)))) (mK (M.frz (mCallB fInt (mKCons (mK (mB (mCmp dGe (mK (M.frz (mCallB fAbs (mKCons (mPk 2) mKNil)))) (mK (M.frz (mOp dPow (mK (mC (.int 10))) (mK (mC (.int 18))))))))) mKNil)))))) (mCons (M.frz (mOp dAdd (mK (M.frz (mOp dAdd (mK (M.frz (mOp dMod (mK (M.frz (mCallB fInt (mKCons (mPk 2) mKNil)))) (mK (mC (.int 2305843009213693951)))))) (mK (M.frz (mOp dMul (mK (mC (.int 39373))) (mPk 1))))))) (mK (mC (.int 34818))))) (mCons (mC (.int 0)) mNil))))))
def m__law_box : MF := (mDef 2 3 e__law_box)
theorem sc__law_box : FnScope ["_law_script", "_law_k", "_law_cell"] ["_law_script", "_law_k"] (defScope s__law_box) := ⟨rfl, rfl, rfl, by decide +kernel, rfl, by decide +kernel, by decide +kernel⟩
theorem d__law_box (T : Tx K mg) : Def0 prog w K mg base "_law_box" 1 ["_law_script", "_law_k"] m__law_box := by
  obtain ⟨f, fd, F, hm, hb⟩ := T.f__law_box
  exact (def0_ok (N := ["_law_script", "_law_k", "_law_cell"]) (ps := ["_law_script", "_law_k"]) (k := 0) (m := e__law_box) F sc__law_box hm hb fun F0 A0 H0 => (dss_cons (ds_set 2 (h := (do_if (dt_cmp hr_lt cs_lt (dk_pk 1) (DK.of (DE.of (do_callB hr_len cl_len (hm := T.b_len) (ha := (dks_cons (dk_pk 0) dks_nil)))))) (DO.of (de_ix (dk_pk 0) (dk_pk 1))) (DO.of de_int)))) (dss_one (ds_ret (do_lst (da_cons (DE.of (do_op hr_mul os_mul (DK.of (DE.of (do_callB hr_abs cl_abs (hm := T.b_abs) (ha := (dks_cons (dk_pk 2) dks_nil))))) (DK.of (DE.of (do_callTy hr_int cl_int (hm := T.b_int) (ha := (dks_cons (DK.of (de_cmp hr_ge cs_ge (DK.of (DE.of (do_callB hr_abs cl_abs (hm := T.b_abs) (ha := (dks_cons (dk_pk 2) dks_nil))))) (DK.of (DE.of (do_op hr_pow os_pow (DK.of de_int) (DK.of de_int)))))) dks_nil))))))) (da_cons (DE.of (do_op hr_add os_add (DK.of (DE.of (do_op hr_add os_add (DK.of (DE.of (do_op hr_mod os_mod (DK.of (DE.of (do_callTy hr_int cl_int (hm := T.b_int) (ha := (dks_cons (dk_pk 2) dks_nil))))) (DK.of de_int)))) (DK.of (DE.of (do_op hr_mul os_mul (DK.of de_int) (dk_pk 1))))))) (DK.of de_int))) (da_cons de_int da_nil))))))))
abbrev e__law_take : M Fl := Sh.e__law_take
abbrev m__law_take : MF := Sh.m__law_take
theorem sc__law_take : FnScope ["_law_box_here", "_law_below_so", "_law_once", "_law_far_so", "_law_twice_so", "_law_drawn_so"] ["_law_box_here", "_law_below_so"] (defScope s__law_take) := ⟨rfl, rfl, rfl, by decide +kernel, rfl, by decide +kernel, by decide +kernel⟩
theorem d__law_take (T : Tx K mg) : Def0 prog w K mg base "_law_take" 1 ["_law_box_here", "_law_below_so"] m__law_take := by
  obtain ⟨f, fd, F, hm, hb⟩ := T.f__law_take
  exact (def0_ok (N := ["_law_box_here", "_law_below_so", "_law_once", "_law_far_so", "_law_twice_so", "_law_drawn_so"]) (ps := ["_law_box_here", "_law_below_so"]) (k := 0) (m := e__law_take) F sc__law_take hm hb fun F0 A0 H0 => (dss_cons (ds_if (dt_cmp hr_gt cs_gt (DK.of (de_ix (dk_pk 0) (DK.of de_int))) (DK.of de_int)) (dss_cons (ds_set 5 (h := (do_op hr_mod os_mod (DK.of (DE.of (do_callTy hr_int cl_int (hm := T.b_int) (ha := (dks_cons (DK.of (de_ix (dk_pk 0) (DK.of de_int))) dks_nil))))) (dk_pk 1)))) (dss_cons (ds_sub (he := (DE.of (do_op hr_fdiv os_fdiv (DK.of (de_ix (dk_pk 0) (DK.of de_int))) (dk_pk 1)))) (ho := (dk_pk 0)) (hi := de_int)) (dss_one (ds_ret (DO.of (de_var 5)))))) dss_nil) (dss_cons (ds_sub (he := (DE.of (do_op hr_add os_add (DK.of (de_ix (dk_pk 0) (DK.of de_int))) (DK.of de_int)))) (ho := (dk_pk 0)) (hi := de_int)) (dss_cons (ds_set 2 (h := (do_op hr_mod os_mod (DK.of (DE.of (do_callTy hr_int cl_int (hm := T.b_int) (ha := (dks_cons (DK.of (DE.of (do_op hr_mul os_mul (DK.of (DE.of (do_op hr_add os_add (DK.of (de_ix (dk_pk 0) (DK.of de_int))) (DK.of (DE.of (do_op hr_mul os_mul (DK.of de_int) (DK.of (de_ix (dk_pk 0) (DK.of de_int))))))))) (DK.of (DE.of (do_op hr_add os_add (DK.of de_int) (DK.of (de_ix (dk_pk 0) (DK.of de_int))))))))) dks_nil))))) (DK.of de_int)))) (dss_cons (ds_set 3 (h := (do_op hr_add os_add (DK.of (DE.of (do_op hr_mod os_mod (DK.of (DE.of (do_callTy hr_int cl_int (hm := T.b_int) (ha := (dks_cons (dk_pk 2) dks_nil))))) (DK.of de_int)))) (DK.of de_int)))) (dss_cons (ds_set 4 (h := (do_op hr_mod os_mod (DK.of (DE.of (do_callTy hr_int cl_int (hm := T.b_int) (ha := (dks_cons (DK.of (DE.of (do_op hr_mul os_mul (DK.of (DE.of (do_op hr_add os_add (DK.of (DE.of (do_op hr_add os_add (dk_pk 2) (DK.of (de_ix (dk_pk 0) (DK.of de_int)))))) (DK.of (DE.of (do_op hr_fdiv os_fdiv (DK.of (de_ix (dk_pk 0) (DK.of de_int))) (DK.of de_int))))))) (dk_pk 3)))) dks_nil))))) (DK.of de_int)))) (dss_one (ds_ret (do_op hr_mod os_mod (DK.of (DE.of (do_callTy hr_int cl_int (hm := T.b_int) (ha := (dks_cons (DK.of (DE.of (do_op hr_fdiv os_fdiv (DK.of (DE.of (do_op hr_mod os_mod (DK.of (DE.of (do_callTy hr_int cl_int (hm := T.b_int) (ha := (dks_cons (DK.of (DE.of (do_op hr_add os_add (DK.of (DE.of (do_op hr_mul os_mul (dk_pk 4) (DK.of de_int)))) (dk_pk 2)))) dks_nil))))) (DK.of de_int)))) (DK.of de_int)))) dks_nil))))) (dk_pk 1))))))))))
abbrev e__law_cells : M Fl := Sh.e__law_cells
abbrev m__law_cells : MF := Sh.m__law_cells
theorem sc__law_cells : FnScope ["_law_script", "_law_most_so", "_law_cells_here", "_law_k", "_law_cell", "_law_at_so"] ["_law_script", "_law_most_so"] (defScope s__law_cells) := ⟨rfl, rfl, rfl, by decide +kernel, rfl, by decide +kernel, by decide +kernel⟩
theorem d__law_cells (T : Tx K mg) : Def0 prog w K mg base "_law_cells" 1 ["_law_script", "_law_most_so"] m__law_cells := by
  obtain ⟨f, fd, F, hm, hb⟩ := T.f__law_cells
  exact (def0_ok (N := ["_law_script", "_law_most_so", "_law_cells_here", "_law_k", "_law_cell", "_law_at_so"]) (ps := ["_law_script", "_law_most_so"]) (k := 0) (m := e__law_cells) F sc__law_cells hm hb fun F0 A0 H0 => (dss_cons (ds_set 2 (h := (do_orT (do_callTy hr_list cl_list (hm := T.b_list) (ha := (dks_cons (DK.of (DE.of (do_sl (dk_pk 0) dp_none (dp_some (de_var 1))))) dks_nil))) (do_one (do_lst (da_cons de_int da_nil)))))) (dss_cons (ds_for (hi := (di_enum (hm := T.b_enumerate) (h := (da_cons (DE.of (do_sl (dk_pk 0) (dp_some (de_var 1)) (dp_some de_int))) da_nil)))) (hg := (dg_tup (dgs_cons 3 (h := (dgs_cons 4 (h := dgs_nil)))))) (hb := (dss_cons (ds_set 5 (h := (do_op hr_mod os_mod (DK.of (DE.of (do_callTy hr_int cl_int (hm := T.b_int) (ha := (dks_cons (dk_pk 3) dks_nil))))) (dk_pk 1)))) (dss_one (ds_sub (he := (DE.of (do_op hr_add os_add (DK.of (de_ix (dk_pk 2) (dk_pk 5))) (DK.of (DE.of (do_op hr_mul os_mul (dk_pk 4) (DK.of (DE.of (do_op hr_add os_add (dk_pk 3) (DK.of de_int)))))))))) (ho := (dk_pk 2)) (hi := (de_var 5))))))) (dss_one (ds_ret (DO.of (de_var 2)))))))
abbrev e__law_of : M Fl := Sh.e__law_of
abbrev m__law_of : MF := Sh.m__law_of
theorem sc__law_of : FnScope ["_law_box_here", "_law_pool_so"] ["_law_box_here", "_law_pool_so"] (defScope s__law_of) := ⟨rfl, rfl, rfl, by decide +kernel, rfl, by decide +kernel, by decide +kernel⟩
theorem d__law_of (T : Tx K mg) : Def0 prog w K mg base "_law_of" 2 ["_law_box_here", "_law_pool_so"] m__law_of := by
  obtain ⟨f, fd, F, hm, hb⟩ := T.f__law_of
  exact (def0_ok (N := ["_law_box_here", "_law_pool_so"]) (ps := ["_law_box_here", "_law_pool_so"]) (k := 1) (m := e__law_of) F sc__law_of hm hb fun F0 A0 H0 => (dss_one (ds_ret (DO.of (de_ix (dk_pk 1) (DK.of (DE.of (do_call (F := d__law_take T) (ha := (da_cons (de_var 0) (da_cons (DE.of (do_callB hr_len cl_len (hm := T.b_len) (ha := (dks_cons (dk_pk 1) dks_nil)))) da_nil)))))))))))
abbrev i__law_lists : Nat → MF := Sh.i__law_lists
abbrev m__law_lists : MF := Sh.m__law_lists
theorem sc__law_lists : FnScope ["_law_matter", "_law_bit"] ["_law_matter"] (defScope s__law_lists) := ⟨rfl, rfl, rfl, by decide +kernel, rfl, by decide +kernel, by decide +kernel⟩
theorem d__law_lists (T : Tx K mg) : Def0 prog w K mg base "_law_lists" 9 ["_law_matter"] m__law_lists := by
  obtain ⟨f, fd, F, hm, hb⟩ := T.f__law_lists
  have gen : ∀ n, Def0 prog w K mg base "_law_lists" (n + 1) ["_law_matter"] (i__law_lists n) := by
    intro n
    induction n with
    | zero => exact def0_bad F sc__law_lists hm hb
    | succ n ih =>
      refine def0_ok (N := ["_law_matter", "_law_bit"]) (ps := ["_law_matter"]) (k := n + 1) (m := (sRet (mIf (mBl (mIsiT ["list", "tuple"] (mPk 0))) (mLC [1] (mItA (mVar 0)) (tgN 1) mYes (Sh.p__law_lists_1 (Sh.i__law_lists n))) (M.vl (mVar 0))))) F sc__law_lists hm hb fun F0 A0 H0 => ?_
      exact (dss_one (ds_ret (do_if (dt_val (de_isiT (hm := T.b_isinstance) (ha := (dk_pk 0)) (ht := (dty_cons (hm := T.b_list) (h := (dty_cons (hm := T.b_tuple) (h := dty_nil))))) (hz := by decide))) (do_lc (own := [("_law_bit", 1)]) (hi := (di_any (de_var 0))) (hg := (dg_name 1)) (h1 := dts_nil) (h2 := (DE.of (do_call (F := ih) (ha := (da_cons (de_var 1) da_nil)))))) (DO.of (de_var 0)))))
  exact gen 8
abbrev i__law_same : Nat → MF := Sh.i__law_same
abbrev m__law_same : MF := Sh.m__law_same
theorem sc__law_same : FnScope ["_law_got", "_law_due_so", "_law_own", "_law_far"] ["_law_got", "_law_due_so"] (defScope s__law_same) := ⟨rfl, rfl, rfl, by decide +kernel, rfl, by decide +kernel, by decide +kernel⟩
theorem d__law_same (T : Tx K mg) : Def0 prog w K mg base "_law_same" 9 ["_law_got", "_law_due_so"] m__law_same := by
  obtain ⟨f, fd, F, hm, hb⟩ := T.f__law_same
  have gen : ∀ n, Def0 prog w K mg base "_law_same" (n + 1) ["_law_got", "_law_due_so"] (i__law_same n) := by
    intro n
    induction n with
    | zero => exact def0_bad F sc__law_same hm hb
    | succ n ih =>
      refine def0_ok (N := ["_law_got", "_law_due_so", "_law_own", "_law_far"]) (ps := ["_law_got", "_law_due_so"]) (k := n + 1) (m := (sSeq (sIf (mBl (mIsiT ["list", "tuple"] (mPk 1))) (sSeq (sIf (mOr (mCmp dNe (mK (M.frz (mCallB fIsi (mKCons (mPk 0) (mKCons (mK (mC (.typ "list"))) mKNil))))) (mK (M.frz (mCallB fIsi (mKCons (mPk 1) (mKCons (mK (mC (.typ "list"))) mKNil)))))) (mCmp dNe (mK (M.frz (mCallB fIsi (mKCons (mPk 0) (mKCons (mK (mC (.typ "tuple"))) mKNil))))) (mK (M.frz (mCallB fIsi (mKCons (mPk 1) (mKCons (mK (mC (.typ "tuple"))) mKNil))))))) (sRet (M.vl (mC (.bl false)))) sNil) (sRet (M.vl (mAndV (mB (mCmp dEq (mK (M.frz (mCallB fLen (mKCons (mPk 0) mKNil)))) (mK (M.frz (mCallB fLen (mKCons (mPk 1) mKNil)))))) (M.frz (mCallB fAll (mKCons (mK (M.frz (mLC [2, 3] (mZip (mCons (mVar 0) (mCons (mVar 1) mNil))) (tgT [2, 3]) mYes (Sh.p__law_same_1 (Sh.i__law_same n))))) mKNil))))))) sNil) (sSeq (sIf (mOr (mCmp dIs (mPk 1) (mK (mC .non))) (mBl (mIsiT ["bool", "str"] (mPk 1)))) (sRet (M.vl (mAndV (mB (mCmp dEq (mPk 0) (mPk 1))) (mAndV (mB (mCmp dEq (mK (M.frz (mCallB fIsi (mKCons (mPk 0) (mKCons (mK (mC (.typ "bool"))) mKNil))))) (mK (M.frz (mCallB fIsi (mKCons (mPk 1) (mKCons (mK (mC (.typ "bool"))) mKNil))))))) (mB (mCmp dEq (mK (mB (mCmp dIs (mPk 0) (mK (mC .non))))) (mK (mB (mCmp dIs (mPk 1) (mK (mC .non))))))))))) sNil) (sRet (M.vl (mAndV (M.frz (mCallB fIsi (mKCons (mPk 0) (mKCons (mK (mC (.typ "int"))) mKNil)))) (mAndV (mNotV (M.frz (mCallB fIsi (mKCons (mPk 0) (mKCons (mK (mC (.typ "bool"))) mKNil))))) (mB (mCmp dEq (mPk 0) (mPk 1)))))))))) F sc__law_same hm hb fun F0 A0 H0 => ?_
      exact (dss_cons (ds_if (dt_val (de_isiT (hm := T.b_isinstance) (ha := (dk_pk 1)) (ht := (dty_cons (hm := T.b_list) (h := (dty_cons (hm := T.b_tuple) (h := dty_nil))))) (hz := by decide))) (dss_cons (ds_if (DT.of (dw_or (dt_cmp hr_ne cs_ne (DK.of (DE.of (do_callB hr_isi cl_isi (hm := T.b_isinstance) (ha := (dks_cons (dk_pk 0) (dks_cons (DK.of (de_typ (hm := T.b_list))) dks_nil)))))) (DK.of (DE.of (do_callB hr_isi cl_isi (hm := T.b_isinstance) (ha := (dks_cons (dk_pk 1) (dks_cons (DK.of (de_typ (hm := T.b_list))) dks_nil))))))) (dw_or1 (dt_cmp hr_ne cs_ne (DK.of (DE.of (do_callB hr_isi cl_isi (hm := T.b_isinstance) (ha := (dks_cons (dk_pk 0) (dks_cons (DK.of (de_typ (hm := T.b_tuple))) dks_nil)))))) (DK.of (DE.of (do_callB hr_isi cl_isi (hm := T.b_isinstance) (ha := (dks_cons (dk_pk 1) (dks_cons (DK.of (de_typ (hm := T.b_tuple))) dks_nil)))))))))) (dss_one (ds_ret (DO.of de_bl))) dss_nil) (dss_one (ds_ret (DO.of (de_and (de_cmp hr_eq cs_eq (DK.of (DE.of (do_callB hr_len cl_len (hm := T.b_len) (ha := (dks_cons (dk_pk 0) dks_nil))))) (DK.of (DE.of (do_callB hr_len cl_len (hm := T.b_len) (ha := (dks_cons (dk_pk 1) dks_nil)))))) (de_one (DE.of (do_callB hr_all cl_all (hm := T.b_all) (ha := (dks_cons (DK.of (DE.of (do_lc (own := [("_law_own", 2), ("_law_far", 3)]) (hi := (di_zip (hm := T.b_zip) (h := (da_cons (de_var 0) (da_cons (de_var 1) da_nil))))) (hg := (dg_tup (dgs_cons 2 (h := (dgs_cons 3 (h := dgs_nil)))))) (h1 := dts_nil) (h2 := (DE.of (do_call (F := ih) (ha := (da_cons (de_var 2) (da_cons (de_var 3) da_nil))))))))) dks_nil)))))))))) dss_nil) (dss_cons (ds_if (DT.of (dw_or (dt_cmp (fun _ _ => op_isN) cs_is (dk_pk 1) (DK.of de_non)) (dw_or1 (dt_val (de_isiT (hm := T.b_isinstance) (ha := (dk_pk 1)) (ht := (dty_cons (hm := T.b_bool) (h := (dty_cons (hm := T.b_str) (h := dty_nil))))) (hz := by decide)))))) (dss_one (ds_ret (DO.of (de_and (de_cmp hr_eq cs_eq (dk_pk 0) (dk_pk 1)) (de_and (de_cmp hr_eq cs_eq (DK.of (DE.of (do_callB hr_isi cl_isi (hm := T.b_isinstance) (ha := (dks_cons (dk_pk 0) (dks_cons (DK.of (de_typ (hm := T.b_bool))) dks_nil)))))) (DK.of (DE.of (do_callB hr_isi cl_isi (hm := T.b_isinstance) (ha := (dks_cons (dk_pk 1) (dks_cons (DK.of (de_typ (hm := T.b_bool))) dks_nil))))))) (de_one (de_cmp hr_eq cs_eq (DK.of (de_cmp (fun _ _ => op_isN) cs_is (dk_pk 0) (DK.of de_non))) (DK.of (de_cmp (fun _ _ => op_isN) cs_is (dk_pk 1) (DK.of de_non)))))))))) dss_nil) (dss_one (ds_ret (DO.of (de_and (DE.of (do_callB hr_isi cl_isi (hm := T.b_isinstance) (ha := (dks_cons (dk_pk 0) (dks_cons (DK.of (de_typ (hm := T.b_int))) dks_nil))))) (de_and (de_not (DE.of (do_callB hr_isi cl_isi (hm := T.b_isinstance) (ha := (dks_cons (dk_pk 0) (dks_cons (DK.of (de_typ (hm := T.b_bool))) dks_nil)))))) (de_one (de_cmp hr_eq cs_eq (dk_pk 0) (dk_pk 1))))))))))
  exact gen 8
abbrev e__law_mixed : M Fl := Sh.e__law_mixed
abbrev m__law_mixed : MF := Sh.m__law_mixed
theorem sc__law_mixed : FnScope ["_law_box_here", "_law_rows_so", "_law_turn", "_law_rest_so", "_law_found", "_law_at_so"] ["_law_box_here", "_law_rows_so"] (defScope s__law_mixed) := ⟨rfl, rfl, rfl, by decide +kernel, rfl, by decide +kernel, by decide +kernel⟩
theorem d__law_mixed (T : Tx K mg) : Def0 prog w K mg base "_law_mixed" 2 ["_law_box_here", "_law_rows_so"] m__law_mixed := by
  obtain ⟨f, fd, F, hm, hb⟩ := T.f__law_mixed
  exact (def0_ok (N := ["_law_box_here", "_law_rows_so", "_law_turn", "_law_rest_so", "_law_found", "_law_at_so"]) (ps := ["_law_box_here", "_law_rows_so"]) (k := 1) (m := e__law_mixed) F sc__law_mixed hm hb fun F0 A0 H0 => (dss_cons (ds_par2 3 4 (ha := (dr_cons (do_callTy hr_list cl_list (hm := T.b_list) (ha := (dks_cons (dk_pk 1) dks_nil))) (dr_cons (do_lst da_nil) dr_nil)))) (dss_cons (ds_for (hi := (di_rng1 (hm := T.b_range) (h := (da_cons (DE.of (do_callB hr_len cl_len (hm := T.b_len) (ha := (dks_cons (dk_pk 1) dks_nil)))) da_nil)))) (hg := (dg_name 2)) (hb := (dss_cons (ds_set 5 (h := (do_call (F := d__law_take T) (ha := (da_cons (de_var 0) (da_cons (DE.of (do_callB hr_len cl_len (hm := T.b_len) (ha := (dks_cons (dk_pk 3) dks_nil)))) da_nil)))))) (dss_cons (ds_expr (h := (DO.of (de_append (ho := (dk_pk 4)) (he := (de_ix (dk_pk 3) (dk_pk 5))))))) (dss_one (ds_set 3 (h := (do_op hr_add os_add (DK.of (DE.of (do_sl (dk_pk 3) dp_none (dp_some (de_var 5))))) (DK.of (DE.of (do_sl (dk_pk 3) (dp_some (DE.of (do_op hr_add os_add (dk_pk 5) (DK.of de_int)))) dp_none))))))))))) (dss_one (ds_ret (DO.of (de_var 4)))))))
abbrev e__law_row : M Fl := Sh.e__law_row
abbrev m__law_row : MF := Sh.m__law_row
theorem sc__law_row : FnScope ["_law_box_here", "_law_many_so", "_law_long_so", "_law_turn", "_law_names_so", "_law_found", "_law_own"] ["_law_box_here", "_law_many_so", "_law_long_so"] (defScope s__law_row) := ⟨rfl, rfl, rfl, by decide +kernel, rfl, by decide +kernel, by decide +kernel⟩
theorem d__law_row (T : Tx K mg) : Def0 prog w K mg base "_law_row" 3 ["_law_box_here", "_law_many_so", "_law_long_so"] m__law_row := by
  obtain ⟨f, fd, F, hm, hb⟩ := T.f__law_row
  exact (def0_ok (N := ["_law_box_here", "_law_many_so", "_law_long_so", "_law_turn", "_law_names_so", "_law_found", "_law_own"]) (ps := ["_law_box_here", "_law_many_so", "_law_long_so"]) (k := 2) (m := e__law_row) F sc__law_row hm hb fun F0 A0 H0 => (dss_cons (ds_par2 4 5 (ha := (dr_cons (do_sl (DK.of (DE.of (do_call (F := d__law_mixed T) (ha := (da_cons (de_var 0) (da_cons (DE.of (do_listS (hm := T.b_list) (h := (de_str (s := [97, 98, 99, 100, 101, 102, 103, 104]) (by rfl))))) da_nil)))))) dp_none (dp_some (de_var 1))) (dr_cons (DO.of (de_str (s := []) (by rfl))) dr_nil)))) (dss_cons (ds_for (hi := (di_rng1 (hm := T.b_range) (h := (da_cons (DE.of (do_call (F := d__law_take T) (ha := (da_cons (de_var 0) (da_cons (DE.of (do_op hr_add os_add (dk_pk 2) (DK.of de_int))) da_nil))))) da_nil)))) (hg := (dg_name 3)) (hb := (dss_cons (ds_set 6 (h := (do_call (F := d__law_of T) (ha := (da_cons (de_var 0) (da_cons (de_var 4) da_nil)))))) (dss_one (ds_set 5 (h := (do_op hr_add os_add (dk_pk 5) (DK.of (de_if (dt_cmp hr_gt cs_gt (DK.of (DE.of (do_call (F := d__law_take T) (ha := (da_cons (de_var 0) (da_cons de_int da_nil)))))) (DK.of de_int)) (de_var 6) (de_upper (hn := by rfl) (ho := (dk_pk 6)) )))))))))) (dss_one (ds_ret (DO.of (de_var 5)))))))
abbrev e__law_plain : M Fl := Sh.e__law_plain
abbrev m__law_plain : MF := Sh.m__law_plain
theorem sc__law_plain : FnScope ["_law_row_so", "_law_own"] ["_law_row_so"] (defScope s__law_plain) := ⟨rfl, rfl, rfl, by decide +kernel, rfl, by decide +kernel, by decide +kernel⟩
theorem d__law_plain (T : Tx K mg) : Def0 prog w K mg base "_law_plain" 1 ["_law_row_so"] m__law_plain := by
  obtain ⟨f, fd, F, hm, hb⟩ := T.f__law_plain
  exact (def0_ok (N := ["_law_row_so", "_law_own"]) (ps := ["_law_row_so"]) (k := 0) (m := e__law_plain) F sc__law_plain hm hb fun F0 A0 H0 => (dss_one (ds_ret (DO.of (de_join (hn := by rfl) (ho := (DK.of (de_str (s := []) (by rfl)))) (he := (DK.of (DE.of (do_lc (own := [("_law_own", 1)]) (hi := (di_any (de_var 0))) (hg := (dg_name 1)) (h1 := dts_nil) (h2 := (de_if (dt_cmp hr_in cs_in (dk_pk 1) (DK.of (de_str (s := [97, 98, 99, 100, 101, 102, 103, 104]) (by rfl)))) (de_var 1) (DE.of (do_op hr_add os_add (DK.of (de_lower (hn := by rfl) (ho := (dk_pk 1)) )) (DK.of (de_lower (hn := by rfl) (ho := (dk_pk 1)) )))))))))))))))
abbrev e__law_back : M Fl := Sh.e__law_back
abbrev m__law_back : MF := Sh.m__law_back
theorem sc__law_back : FnScope ["_law_row_so", "_law_own"] ["_law_row_so"] (defScope s__law_back) := ⟨rfl, rfl, rfl, by decide +kernel, rfl, by decide +kernel, by decide +kernel⟩
theorem d__law_back (T : Tx K mg) : Def0 prog w K mg base "_law_back" 1 ["_law_row_so"] m__law_back := by
  obtain ⟨f, fd, F, hm, hb⟩ := T.f__law_back
  exact (def0_ok (N := ["_law_row_so", "_law_own"]) (ps := ["_law_row_so"]) (k := 0) (m := e__law_back) F sc__law_back hm hb fun F0 A0 H0 => (dss_one (ds_ret (DO.of (de_join (hn := by rfl) (ho := (DK.of (de_str (s := []) (by rfl)))) (he := (DK.of (DE.of (do_lc (own := [("_law_own", 1)]) (hi := (di_any (de_revS (dk_pk 0)))) (hg := (dg_name 1)) (h1 := dts_nil) (h2 := (de_if (dt_cmp hr_in cs_in (dk_pk 1) (DK.of (de_str (s := [97, 98, 99, 100, 101, 102, 103, 104]) (by rfl)))) (de_upper (hn := by rfl) (ho := (dk_pk 1)) ) (de_lower (hn := by rfl) (ho := (dk_pk 1)) ))))))))))))
abbrev e__law_form : M Fl := Sh.e__law_form
abbrev m__law_form : MF := Sh.m__law_form
theorem sc__law_form : FnScope ["_law_row_so", "_law_own", "_law_found", "_law_bit", "_law_names_so", "_law_one_so", "_law_plain_so", "_law_ones_so", "_law_pairs_so", "_law_threes_so", "_law_two_so", "_law_six_so", "_law_tag_so", "_law_some", "_law_sum_so"] ["_law_row_so"] (defScope s__law_form) := ⟨rfl, rfl, rfl, by decide +kernel, rfl, by decide +kernel, by decide +kernel⟩
theorem d__law_form (T : Tx K mg) : Def0 prog w K mg base "_law_form" 2 ["_law_row_so"] m__law_form := by
  obtain ⟨f, fd, F, hm, hb⟩ := T.f__law_form
  exact (def0_ok (N := ["_law_row_so", "_law_own", "_law_found", "_law_bit", "_law_names_so", "_law_one_so", "_law_plain_so", "_law_ones_so", "_law_pairs_so", "_law_threes_so", "_law_two_so", "_law_six_so", "_law_tag_so", "_law_some", "_law_sum_so"]) (ps := ["_law_row_so"]) (k := 1) (m := e__law_form) F sc__law_form hm hb fun F0 A0 H0 => (dss_cons (ds_parT (ha := (dr_cons (do_call (F := d__law_plain T) (ha := (da_cons (de_var 0) da_nil))) (dr_cons do_dnew (dr_cons do_dnew (dr_cons do_dnew dr_nil))))) (hn := (dn_cons 6 (h := (dn_cons 7 (h := (dn_cons 8 (h := (dn_cons 9 (h := dn_nil)))))))))) (dss_cons (ds_for (hi := (di_any (de_var 6))) (hg := (dg_name 1)) (hb := (dss_cons (ds_for (hi := (di_any (DE.of (do_callB hr_sort cl_sort (hm := T.b_sorted) (ha := (dks_cons (dk_pk 8) dks_nil)))))) (hg := (dg_name 3)) (hb := (dss_one (ds_if (dt_cmp hr_notin cs_notin (dk_pk 1) (dk_pk 3)) (dss_cons (ds_set 12 (h := (do_op hr_add os_add (dk_pk 3) (dk_pk 1)))) (dss_one (ds_dput 9 (he := (DE.of (do_op hr_add os_add (DK.of (de_get2 (ho := (dk_pk 9)) (hk := (de_var 12)) (hx := de_int))) (DK.of (de_dget (dk_pk 8) (dk_pk 3)))))) (hk := (de_var 12))))) dss_nil)))) (dss_cons (ds_for (hi := (di_any (DE.of (do_callB hr_sort cl_sort (hm := T.b_sorted) (ha := (dks_cons (dk_pk 7) dks_nil)))))) (hg := (dg_name 3)) (hb := (dss_one (ds_if (dt_cmp hr_ne cs_ne (dk_pk 3) (dk_pk 1)) (dss_one (ds_dput 8 (he := (DE.of (do_op hr_add os_add (DK.of (de_get2 (ho := (dk_pk 8)) (hk := (DE.of (do_op hr_add os_add (dk_pk 3) (dk_pk 1)))) (hx := de_int))) (DK.of (de_dget (dk_pk 7) (dk_pk 3)))))) (hk := (DE.of (do_op hr_add os_add (dk_pk 3) (dk_pk 1)))))) dss_nil)))) (dss_one (ds_dput 7 (he := (DE.of (do_op hr_add os_add (DK.of (de_get2 (ho := (dk_pk 7)) (hk := (de_var 1)) (hx := de_int))) (DK.of de_int)))) (hk := (de_var 1)))))))) (dss_cons (ds_set 2 (h := (do_ow2 (dl_cons (do_lc (own := [("_law_bit", 3)]) (hi := (di_any (DE.of (do_callB hr_sort cl_sort (hm := T.b_sorted) (ha := (dks_cons (dk_pk 7) dks_nil)))))) (hg := (dg_name 3)) (h1 := dts_nil) (h2 := (de_tup (da_cons (de_var 3) (da_cons (DE.of (do_op hr_mod os_mod (DK.of (de_dget (dk_pk 7) (dk_pk 3))) (DK.of de_int))) da_nil))))) (dl_cons (do_lst da_nil) (dl_cons (do_lst da_nil) dl_nil)))))) (dss_cons (ds_for (hi := (di_any (DE.of (do_callB hr_sort cl_sort (hm := T.b_sorted) (ha := (dks_cons (dk_pk 8) dks_nil)))))) (hg := (dg_name 3)) (hb := (dss_one (ds_if (dt_cmp hr_lt cs_lt (DK.of (de_ix (dk_pk 3) (DK.of de_int))) (DK.of (de_ix (dk_pk 3) (DK.of de_int)))) (dss_one (ds_app2 (k := 1) 2 (hkk := kk_int) (he := (de_tup (da_cons (de_var 3) (da_cons (DE.of (do_op hr_mod os_mod (DK.of (de_dget (dk_pk 8) (dk_pk 3))) (DK.of de_int))) da_nil)))))) dss_nil)))) (dss_cons (ds_set 4 (h := (do_callB hr_sort cl_sort (hm := T.b_sorted) (ha := (dks_cons (dk_pk 7) dks_nil))))) (dss_cons (ds_for (hi := (di_any (de_var 4))) (hg := (dg_name 5)) (hb := (dss_one (ds_for (hi := (di_any (de_var 4))) (hg := (dg_name 10)) (hb := (dss_one (ds_for (hi := (di_any (de_var 4))) (hg := (dg_name 11)) (hb := (dss_one (ds_if (dt_chain hr_lt hr_lt cs_lt cs_lt (dk_pk 5) (dk_pk 10) (dk_pk 11)) (dss_cons (ds_set 14 (h := (DO.of (de_get2 (ho := (dk_pk 9)) (hk := (DE.of (do_op hr_add os_add (DK.of (DE.of (do_op hr_add os_add (dk_pk 5) (dk_pk 10)))) (dk_pk 11)))) (hx := de_int))))) (dss_cons (ds_set 14 (h := (do_op hr_sub os_sub (dk_pk 14) (DK.of (de_get2 (ho := (dk_pk 9)) (hk := (DE.of (do_op hr_add os_add (DK.of (DE.of (do_op hr_add os_add (dk_pk 10) (dk_pk 5)))) (dk_pk 11)))) (hx := de_int)))))) (dss_one (ds_app2 (k := 2) 2 (hkk := kk_int) (he := (de_tup (da_cons (DE.of (do_op hr_add os_add (DK.of (DE.of (do_op hr_add os_add (dk_pk 5) (dk_pk 10)))) (dk_pk 11))) (da_cons (DE.of (do_op hr_mod os_mod (dk_pk 14) (DK.of de_int))) da_nil)))))))) dss_nil)))))))))) (dss_one (ds_ret (do_callTy hr_tuple cl_tuple (hm := T.b_tuple) (ha := (dks_cons (DK.of (DE.of (do_lc (own := [("_law_some", 13)]) (hi := (di_any (de_var 2))) (hg := (dg_name 13)) (h1 := dts_nil) (h2 := (DE.of (do_callTy hr_tuple cl_tuple (hm := T.b_tuple) (ha := (dks_cons (DK.of (DE.of (do_lc (own := [("_law_own", 1)]) (hi := (di_any (de_var 13))) (hg := (dg_name 1)) (h1 := (dts_one (dt_cmp hr_ne cs_ne (DK.of (de_ix (dk_pk 1) (DK.of de_int))) (DK.of de_int)))) (h2 := (de_var 1))))) dks_nil)))))))) dks_nil))))))))))))
abbrev e__law_by_hand_right : M Fl := (sSeq (sPars [3, 4, 5] (rCons (mCall0 m__law_form (mCons (mC (.str [97])) mNil)) (rCons (mCall0 m__law_form (mCons (mC (.str [98])) mNil)) (rCons (M.vl (mTup (mCons (mTup mNil) (mCons (mTup mNil) (mCons (mTup mNil) mNil))))) rNil)))) (sSeq (sSet 0 (mLst (mCons (M.frz (mCall0 m_turned_row (mCons (mC (.str [97])) (mCons (mC (.str [98])) mNil)))) (mCons (M.frz (mCall0 m_turned_row (mCons (mC (.str [97, 66])) (mCons (mC (.str [99, 65])) mNil)))) (mCons (M.frz (mCall0 m_turned_row (mCons (mC (.str [])) (mCons (mC (.str [97, 98])) mNil)))) (mCons (M.frz (mCall0 m_turned_row (mCons (mC (.str [97, 98])) (mCons (mC (.str [])) mNil)))) (mCons (M.frz (mCall0 m_turned_row (mCons (mC (.str [])) (mCons (mC (.str [])) mNil)))) (mCons (M.frz (mCallK m_turned_row 0 2 [1, 0] mNil (mCons (mC (.str [68])) (mCons (mC (.str [97, 99])) mNil)))) mNil)))))))) (sSeq (sSet 1 (mLst (mCons (mC (.str [66, 97, 98])) (mCons (mC (.str [97, 67, 97, 66, 99, 65])) (mCons (mC (.str [66, 65, 97, 98])) (mCons (mC (.str [97, 98])) (mCons (mC (.str [])) (mCons (mC (.str [100, 97, 99, 68])) mNil)))))))) (sSeq (sSet 0 (mOp dAdd (mPk 0) (mK (M.frz (mLst (mCons (M.frz (mCall0 m_turned_form (mCons (mVar 3) (mCons (mVar 4) mNil)))) (mCons (M.frz (mCall0 m_turned_form (mCons (mVar 4) (mCons (mVar 3) mNil)))) (mCons (M.frz (mCall0 m_turned_form (mCons (mVar 3) (mCons (mVar 3) mNil)))) (mCons (M.frz (mCall0 m_turned_form (mCons (mVar 5) (mCons (mVar 4) mNil)))) (mCons (M.frz (mCall0 m_turned_form (mCons (mVar 3) (mCons (mVar 5) mNil)))) mNil)))))))))) (sSeq (sSet 1 (mOp dAdd (mPk 1) (mK (M.frz (mLst (mCons (mTup (mCons (mTup (mCons (mTup (mCons (mC (.str [97])) (mCons (mC (.int 1)) mNil))) mNil)) (mCons (mTup (mCons (mTup (mCons (mC (.str [97, 98])) (mCons (mC (.int 1)) mNil))) mNil)) (mCons (mTup mNil) mNil)))) (mCons (mTup (mCons (mTup (mCons (mTup (mCons (mC (.str [98])) (mCons (mC (.int 1)) mNil))) mNil)) (mCons (mTup (mCons (mTup (mCons (mC (.str [97, 98])) (mCons (mC (.int 2)) mNil))) mNil)) (mCons (mTup mNil) mNil)))) (mCons (mVar 3) (mCons (mVar 5) (mCons (mVar 3) mNil)))))))))) (sSeq (sSet 0 (mOp dAdd (mPk 0) (mK (M.frz (mLst (mCons (M.frz (mCall0 m_turned_form (mCons (mVar 3) (mCons (M.frz (mCall0 m__law_form (mCons (mC (.str [98, 99])) mNil))) mNil)))) (mCons (M.frz (mCall0 m_turned_form (mCons (mVar 3) (mCons (M.frz (mCall0 m__law_form (mCons (mC (.str [98, 98, 98])) mNil))) mNil)))) (mCons (M.frz (mCall0 m_turned_form (mCons (M.frz (mCall0 m__law_form (mCons (mC (.str [65])) mNil))) (mCons (mVar 4) mNil)))) mNil)))))))) (sSeq (sSet 1 (mOp dAdd (mPk 1) (mK (M.frz (mLst (mCons (mTup (mCons (mTup (mCons (mTup (mCons (mC (.str [97])) (mCons (mC (.int 1)) mNil))) mNil)) (mCons (mTup (mCons (mTup (mCons (mC (.str [97, 98])) (mCons (mC (.int 1)) mNil))) (mCons (mTup (mCons (mC (.str [97, 99])) (mCons (mC (.int 1)) mNil))) mNil))) (mCons (mTup (mCons (mTup (mCons (mC (.str [97, 98, 99])) (mCons (mC (.int 2)) mNil))) mNil)) mNil)))) (mCons (mVar 3) (mCons (mTup (mCons (mTup (mCons (mTup (mCons (mC (.str [97])) (mCons (mC (.int 2)) mNil))) mNil)) (mCons (mTup (mCons (mTup (mCons (mC (.str [97, 98])) (mCons (mC (.int 2)) mNil))) mNil)) (mCons (mTup mNil) mNil)))) mNil)))))))) (sSeq (sSet 0 (mOp dAdd (mPk 0) (mK (M.frz (mLst (mCons (M.frz (mCall0 m_turned_form (mCons (M.frz (mCall0 m__law_form (mCons (mC (.str [65, 66, 97, 98])) mNil))) (mCons (M.frz (mCall0 m__law_form (mCons (mC (.str [99])) mNil))) mNil)))) (mCons (M.frz (mCall0 m_turned_form (mCons (M.frz (mCall0 m__law_form (mCons (mC (.str [65, 66, 97, 98])) mNil))) (mCons (mVar 3) mNil)))) (mCons (M.frz (mCall0 m_turned_form (mCons (M.frz (mCall0 m__law_form (mCons (mC (.str [97, 98])) mNil))) (mCons (mVar 3) mNil)))) mNil)))))))) (sSeq (sSet 1 (mOp dAdd (mPk 1) (mK (M.frz (mLst (mCons (mTup (mCons (mTup mNil) (mCons (mTup (mCons (mTup (mCons (mC (.str [97, 98])) (mCons (mC (.int 1)) mNil))) mNil)) (mCons (mTup (mCons (mTup (mCons (mC (.str [97, 98, 99])) (mCons (mC (.int 2)) mNil))) mNil)) mNil)))) (mCons (mTup (mCons (mTup mNil) (mCons (mTup (mCons (mTup (mCons (mC (.str [97, 98])) (mCons (mC (.int 1)) mNil))) mNil)) (mCons (mTup mNil) mNil)))) (mCons (mTup (mCons (mTup (mCons (mTup (mCons (mC (.str [97])) (mCons (mC (.int 1)) mNil))) (mCons (mTup (mCons (mC (.str [98])) (mCons (mC (.int 1)) mNil))) mNil))) (mCons (mTup mNil) (mCons (mTup mNil) mNil)))) mNil)))))))) (sSeq (sDrop (M.vl (mApp (mPk 0) (M.frz (mCallK m_turned_form 0 2 [1, 0] mNil (mCons (M.frz (mCall0 m__law_lists (mCons (mVar 4) mNil))) (mCons (M.frz (mCall0 m__law_lists (mCons (mVar 3) mNil))) mNil))))))) (sSeq (sDrop (M.vl (mApp (mPk 1) (mTup (mCons (mTup (mCons (mTup (mCons (mC (.str [97])) (mCons (mC (.int 1)) mNil))) mNil)) (mCons (mTup (mCons (mTup (mCons (mC (.str [97, 98])) (mCons (mC (.int 1)) mNil))) mNil)) (mCons (mTup mNil) mNil))))))) (sSeq (sSet 2 (mOp dAdd (mK (M.frz (mOp dMul (mK (mC (.str [97, 98, 99, 100, 101, 102, 103, 104]))) (mK (mC (.int 12)))))) (mK (mC (.str [104, 103, 102, 101]))))) (sSeq (sSet 0 (mOp dAdd (mPk 0) (mK (M.frz (mLst (mCons (M.frz (mCall0 m_turned_row (mCons (mVar 2) (mCons (mC (.str [104])) mNil)))) (mCons (M.frz (mCall0 m_turned_row (mCons (mC (.str [104])) (mCons (mVar 2) mNil)))) (mCons (M.frz (mCall0 m_turned_form (mCons (M.frz (mCall0 m__law_form (mCons (mVar 2) mNil))) (mCons (M.frz (mCall0 m__law_form (mCons (mVar 2) mNil))) mNil)))) mNil)))))))) (sRet (mCall0 m__law_same (mCons (mVar 0) (mCons (M.frz (mOp dAdd (mPk 1) (mK (M.frz (mLst (mCons (M.frz (mOp dAdd (mK (M.frz (mOp dAdd (mK (mC (.str [72]))) (mPk 2)))) (mK (mC (.str [104]))))) (mCons (M.frz (mOp dAdd (mK (M.frz (mOp dAdd (mK (M.frz (mCall0 m__law_back (mCons (mVar 2) mNil)))) (mK (mC (.str [104])))))) (mPk 2))) (mCons (M.frz (mCall0 m__law_form (mCons (mVar 2) mNil))) mNil)))))))) mNil)))))))))))))))))
def m__law_by_hand_right : MF := (mDef 0 6 e__law_by_hand_right)
theorem sc__law_by_hand_right : FnScope ["_law_got", "_law_due", "_law_long_so", "_law_a_so", "_law_b_so", "_law_none_so"] [] (defScope s__law_by_hand_right) := ⟨rfl, rfl, rfl, by decide +kernel, rfl, by decide +kernel, by decide +kernel⟩
theorem d__law_by_hand_right (T : Tx K mg) : Def0 prog w K mg base "_law_by_hand_right" 12 [] m__law_by_hand_right := by
  obtain ⟨f, fd, F, hm, hb⟩ := T.f__law_by_hand_right
  exact (def0_ok (N := ["_law_got", "_law_due", "_law_long_so", "_law_a_so", "_law_b_so", "_law_none_so"]) (ps := []) (k := 11) (m := e__law_by_hand_right) F sc__law_by_hand_right hm hb fun F0 A0 H0 => (dss_cons (ds_par3 3 4 5 (ha := (dr_cons (do_call (F := d__law_form T) (ha := (da_cons (de_str (s := [97]) (by rfl)) da_nil))) (dr_cons (do_call (F := d__law_form T) (ha := (da_cons (de_str (s := [98]) (by rfl)) da_nil))) (dr_cons (DO.of (de_tup (da_cons (de_tup da_nil) (da_cons (de_tup da_nil) (da_cons (de_tup da_nil) da_nil))))) dr_nil))))) (dss_cons (ds_set 0 (h := (do_lst (da_cons (DE.of (do_call (F := d_turned_row T) (ha := (da_cons (de_str (s := [97]) (by rfl)) (da_cons (de_str (s := [98]) (by rfl)) da_nil))))) (da_cons (DE.of (do_call (F := d_turned_row T) (ha := (da_cons (de_str (s := [97, 66]) (by rfl)) (da_cons (de_str (s := [99, 65]) (by rfl)) da_nil))))) (da_cons (DE.of (do_call (F := d_turned_row T) (ha := (da_cons (de_str (s := []) (by rfl)) (da_cons (de_str (s := [97, 98]) (by rfl)) da_nil))))) (da_cons (DE.of (do_call (F := d_turned_row T) (ha := (da_cons (de_str (s := [97, 98]) (by rfl)) (da_cons (de_str (s := []) (by rfl)) da_nil))))) (da_cons (DE.of (do_call (F := d_turned_row T) (ha := (da_cons (de_str (s := []) (by rfl)) (da_cons (de_str (s := []) (by rfl)) da_nil))))) (da_cons (DE.of (do_callK0 (F := kb_turned_row_0 T) (hw := (dkw_cons (de_str (s := [68]) (by rfl)) (dkw_cons (de_str (s := [97, 99]) (by rfl)) dkw_nil))))) da_nil))))))))) (dss_cons (ds_set 1 (h := (do_lst (da_cons (de_str (s := [66, 97, 98]) (by rfl)) (da_cons (de_str (s := [97, 67, 97, 66, 99, 65]) (by rfl)) (da_cons (de_str (s := [66, 65, 97, 98]) (by rfl)) (da_cons (de_str (s := [97, 98]) (by rfl)) (da_cons (de_str (s := []) (by rfl)) (da_cons (de_str (s := [100, 97, 99, 68]) (by rfl)) da_nil))))))))) (dss_cons (ds_set 0 (h := (do_op hr_add os_add (dk_pk 0) (DK.of (DE.of (do_lst (da_cons (DE.of (do_call (F := d_turned_form T) (ha := (da_cons (de_var 3) (da_cons (de_var 4) da_nil))))) (da_cons (DE.of (do_call (F := d_turned_form T) (ha := (da_cons (de_var 4) (da_cons (de_var 3) da_nil))))) (da_cons (DE.of (do_call (F := d_turned_form T) (ha := (da_cons (de_var 3) (da_cons (de_var 3) da_nil))))) (da_cons (DE.of (do_call (F := d_turned_form T) (ha := (da_cons (de_var 5) (da_cons (de_var 4) da_nil))))) (da_cons (DE.of (do_call (F := d_turned_form T) (ha := (da_cons (de_var 3) (da_cons (de_var 5) da_nil))))) da_nil))))))))))) (dss_cons (ds_set 1 (h := (do_op hr_add os_add (dk_pk 1) (DK.of (DE.of (do_lst (da_cons (de_tup (da_cons (de_tup (da_cons (de_tup (da_cons (de_str (s := [97]) (by rfl)) (da_cons de_int da_nil))) da_nil)) (da_cons (de_tup (da_cons (de_tup (da_cons (de_str (s := [97, 98]) (by rfl)) (da_cons de_int da_nil))) da_nil)) (da_cons (de_tup da_nil) da_nil)))) (da_cons (de_tup (da_cons (de_tup (da_cons (de_tup (da_cons (de_str (s := [98]) (by rfl)) (da_cons de_int da_nil))) da_nil)) (da_cons (de_tup (da_cons (de_tup (da_cons (de_str (s := [97, 98]) (by rfl)) (da_cons de_int da_nil))) da_nil)) (da_cons (de_tup da_nil) da_nil)))) (da_cons (de_var 3) (da_cons (de_var 5) (da_cons (de_var 3) da_nil))))))))))) (dss_cons (ds_set 0 (h := (do_op hr_add os_add (dk_pk 0) (DK.of (DE.of (do_lst (da_cons (DE.of (do_call (F := d_turned_form T) (ha := (da_cons (de_var 3) (da_cons (DE.of (do_call (F := d__law_form T) (ha := (da_cons (de_str (s := [98, 99]) (by rfl)) da_nil)))) da_nil))))) (da_cons (DE.of (do_call (F := d_turned_form T) (ha := (da_cons (de_var 3) (da_cons (DE.of (do_call (F := d__law_form T) (ha := (da_cons (de_str (s := [98, 98, 98]) (by rfl)) da_nil)))) da_nil))))) (da_cons (DE.of (do_call (F := d_turned_form T) (ha := (da_cons (DE.of (do_call (F := d__law_form T) (ha := (da_cons (de_str (s := [65]) (by rfl)) da_nil)))) (da_cons (de_var 4) da_nil))))) da_nil))))))))) (dss_cons (ds_set 1 (h := (do_op hr_add os_add (dk_pk 1) (DK.of (DE.of (do_lst (da_cons (de_tup (da_cons (de_tup (da_cons (de_tup (da_cons (de_str (s := [97]) (by rfl)) (da_cons de_int da_nil))) da_nil)) (da_cons (de_tup (da_cons (de_tup (da_cons (de_str (s := [97, 98]) (by rfl)) (da_cons de_int da_nil))) (da_cons (de_tup (da_cons (de_str (s := [97, 99]) (by rfl)) (da_cons de_int da_nil))) da_nil))) (da_cons (de_tup (da_cons (de_tup (da_cons (de_str (s := [97, 98, 99]) (by rfl)) (da_cons de_int da_nil))) da_nil)) da_nil)))) (da_cons (de_var 3) (da_cons (de_tup (da_cons (de_tup (da_cons (de_tup (da_cons (de_str (s := [97]) (by rfl)) (da_cons de_int da_nil))) da_nil)) (da_cons (de_tup (da_cons (de_tup (da_cons (de_str (s := [97, 98]) (by rfl)) (da_cons de_int da_nil))) da_nil)) (da_cons (de_tup da_nil) da_nil)))) da_nil))))))))) (dss_cons (ds_set 0 (h := (do_op hr_add os_add (dk_pk 0) (DK.of (DE.of (do_lst (da_cons (DE.of (do_call (F := d_turned_form T) (ha := (da_cons (DE.of (do_call (F := d__law_form T) (ha := (da_cons (de_str (s := [65, 66, 97, 98]) (by rfl)) da_nil)))) (da_cons (DE.of (do_call (F := d__law_form T) (ha := (da_cons (de_str (s := [99]) (by rfl)) da_nil)))) da_nil))))) (da_cons (DE.of (do_call (F := d_turned_form T) (ha := (da_cons (DE.of (do_call (F := d__law_form T) (ha := (da_cons (de_str (s := [65, 66, 97, 98]) (by rfl)) da_nil)))) (da_cons (de_var 3) da_nil))))) (da_cons (DE.of (do_call (F := d_turned_form T) (ha := (da_cons (DE.of (do_call (F := d__law_form T) (ha := (da_cons (de_str (s := [97, 98]) (by rfl)) da_nil)))) (da_cons (de_var 3) da_nil))))) da_nil))))))))) (dss_cons (ds_set 1 (h := (do_op hr_add os_add (dk_pk 1) (DK.of (DE.of (do_lst (da_cons (de_tup (da_cons (de_tup da_nil) (da_cons (de_tup (da_cons (de_tup (da_cons (de_str (s := [97, 98]) (by rfl)) (da_cons de_int da_nil))) da_nil)) (da_cons (de_tup (da_cons (de_tup (da_cons (de_str (s := [97, 98, 99]) (by rfl)) (da_cons de_int da_nil))) da_nil)) da_nil)))) (da_cons (de_tup (da_cons (de_tup da_nil) (da_cons (de_tup (da_cons (de_tup (da_cons (de_str (s := [97, 98]) (by rfl)) (da_cons de_int da_nil))) da_nil)) (da_cons (de_tup da_nil) da_nil)))) (da_cons (de_tup (da_cons (de_tup (da_cons (de_tup (da_cons (de_str (s := [97]) (by rfl)) (da_cons de_int da_nil))) (da_cons (de_tup (da_cons (de_str (s := [98]) (by rfl)) (da_cons de_int da_nil))) da_nil))) (da_cons (de_tup da_nil) (da_cons (de_tup da_nil) da_nil)))) da_nil))))))))) (dss_cons (ds_expr (h := (DO.of (de_append (ho := (dk_pk 0)) (he := (DE.of (do_callK0 (F := kb_turned_form_0 T) (hw := (dkw_cons (DE.of (do_call (F := d__law_lists T) (ha := (da_cons (de_var 4) da_nil)))) (dkw_cons (DE.of (do_call (F := d__law_lists T) (ha := (da_cons (de_var 3) da_nil)))) dkw_nil)))))))))) (dss_cons (ds_expr (h := (DO.of (de_append (ho := (dk_pk 1)) (he := (de_tup (da_cons (de_tup (da_cons (de_tup (da_cons (de_str (s := [97]) (by rfl)) (da_cons de_int da_nil))) da_nil)) (da_cons (de_tup (da_cons (de_tup (da_cons (de_str (s := [97, 98]) (by rfl)) (da_cons de_int da_nil))) da_nil)) (da_cons (de_tup da_nil) da_nil))))))))) (dss_cons (ds_set 2 (h := (do_op hr_add os_add (DK.of (DE.of (do_op hr_mul os_mul (DK.of (de_str (s := [97, 98, 99, 100, 101, 102, 103, 104]) (by rfl))) (DK.of de_int)))) (DK.of (de_str (s := [104, 103, 102, 101]) (by rfl)))))) (dss_cons (ds_set 0 (h := (do_op hr_add os_add (dk_pk 0) (DK.of (DE.of (do_lst (da_cons (DE.of (do_call (F := d_turned_row T) (ha := (da_cons (de_var 2) (da_cons (de_str (s := [104]) (by rfl)) da_nil))))) (da_cons (DE.of (do_call (F := d_turned_row T) (ha := (da_cons (de_str (s := [104]) (by rfl)) (da_cons (de_var 2) da_nil))))) (da_cons (DE.of (do_call (F := d_turned_form T) (ha := (da_cons (DE.of (do_call (F := d__law_form T) (ha := (da_cons (de_var 2) da_nil)))) (da_cons (DE.of (do_call (F := d__law_form T) (ha := (da_cons (de_var 2) da_nil)))) da_nil))))) da_nil))))))))) (dss_one (ds_ret (do_call (F := d__law_same T) (ha := (da_cons (de_var 0) (da_cons (DE.of (do_op hr_add os_add (dk_pk 1) (DK.of (DE.of (do_lst (da_cons (DE.of (do_op hr_add os_add (DK.of (DE.of (do_op hr_add os_add (DK.of (de_str (s := [72]) (by rfl))) (dk_pk 2)))) (DK.of (de_str (s := [104]) (by rfl))))) (da_cons (DE.of (do_op hr_add os_add (DK.of (DE.of (do_op hr_add os_add (DK.of (DE.of (do_call (F := d__law_back T) (ha := (da_cons (de_var 2) da_nil))))) (DK.of (de_str (s := [104]) (by rfl)))))) (dk_pk 2))) (da_cons (DE.of (do_call (F := d__law_form T) (ha := (da_cons (de_var 2) da_nil)))) da_nil)))))))) da_nil))))))))))))))))))))
def p__law_right_1 : M Fl := (sSeq (sPars [3, 4] (rCons (mCall0 m__law_row (mCons (mVar 0) (mCons (M.frz (mOp dAdd (mK (mC (.int 1))) (mK (M.frz (mCall0 m__law_take (mCons (mVar 0) (mCons (mC (.int 8)) mNil))))))) (mCons (mC (.int 20)) mNil)))) (rCons (mCall0 m__law_row (mCons (mVar 0) (mCons (M.frz (mOp dAdd (mK (mC (.int 1))) (mK (M.frz (mCall0 m__law_take (mCons (mVar 0) (mCons (mC (.int 5)) mNil))))))) (mCons (mC (.int 12)) mNil)))) rNil))) (sSeq (sPars [5, 6] (rCons (mOp dAdd (mK (M.frz (mOp dAdd (mK (M.frz (mCall0 m__law_back (mCons (mVar 4) mNil)))) (mPk 3)))) (mPk 4)) (rCons (mLst (mCons (M.frz (mCall0 m__law_form (mCons (mVar 3) mNil))) (mCons (M.frz (mCall0 m__law_form (mCons (mVar 4) mNil))) mNil))) rNil))) (sSeq (sPars [7, 8] (rCons (mCall0 m__law_lists (mCons (mVar 6) mNil)) (rCons (mCall0 m__law_form (mCons (mVar 5) mNil)) rNil))) (sSeq (sSet 2 (mLst (mCons (M.frz (mCall0 m_turned_row (mCons (mVar 3) (mCons (mVar 4) mNil)))) (mCons (M.frz (mCall0 m_turned_form (mCons (mOpV dIx (mPk 6) (mK (mC (.int 0)))) (mCons (mOpV dIx (mPk 6) (mK (mC (.int 1)))) mNil)))) (mCons (M.frz (mCall0 m_turned_form (mCons (mOpV dIx (mPk 7) (mK (mC (.int 0)))) (mCons (mOpV dIx (mPk 7) (mK (mC (.int 1)))) mNil)))) (mCons (mVar 7) mNil)))))) (sIf (mNot (mBl (M.frz (mCall0 m__law_same (mCons (mVar 2) (mCons (M.frz (mLst (mCons (mVar 5) (mCons (mVar 8) (mCons (mVar 8) (mCons (M.frz (mCall0 m__law_lists (mCons (mVar 6) mNil))) mNil)))))) mNil)))))) (sRet (M.vl (mC (.bl false)))) sNil)))))
abbrev e__law_right : M Fl := (sSeq (sFor (mRng1 (mCons (mC (.int 8)) mNil)) (tgN 1) p__law_right_1) (sRet (M.vl (mC (.bl true)))))
def m__law_right : MF := (mDef 1 9 e__law_right)
theorem sc__law_right : FnScope ["_law_box_here", "_law_turn", "_law_got", "_law_own", "_law_by_so", "_law_row_so", "_law_forms_so", "_law_soft_so", "_law_due"] ["_law_box_here"] (defScope s__law_right) := ⟨rfl, rfl, rfl, by decide +kernel, rfl, by decide +kernel, by decide +kernel⟩
theorem d__law_right (T : Tx K mg) : Def0 prog w K mg base "_law_right" 12 ["_law_box_here"] m__law_right := by
  obtain ⟨f, fd, F, hm, hb⟩ := T.f__law_right
  exact (def0_ok (N := ["_law_box_here", "_law_turn", "_law_got", "_law_own", "_law_by_so", "_law_row_so", "_law_forms_so", "_law_soft_so", "_law_due"]) (ps := ["_law_box_here"]) (k := 11) (m := e__law_right) F sc__law_right hm hb fun F0 A0 H0 => (dss_cons (ds_for (hi := (di_rng1 (hm := T.b_range) (h := (da_cons de_int da_nil)))) (hg := (dg_name 1)) (hb := (dss_cons (ds_par2 3 4 (ha := (dr_cons (do_call (F := d__law_row T) (ha := (da_cons (de_var 0) (da_cons (DE.of (do_op hr_add os_add (DK.of de_int) (DK.of (DE.of (do_call (F := d__law_take T) (ha := (da_cons (de_var 0) (da_cons de_int da_nil)))))))) (da_cons de_int da_nil))))) (dr_cons (do_call (F := d__law_row T) (ha := (da_cons (de_var 0) (da_cons (DE.of (do_op hr_add os_add (DK.of de_int) (DK.of (DE.of (do_call (F := d__law_take T) (ha := (da_cons (de_var 0) (da_cons de_int da_nil)))))))) (da_cons de_int da_nil))))) dr_nil)))) (dss_cons (ds_par2 5 6 (ha := (dr_cons (do_op hr_add os_add (DK.of (DE.of (do_op hr_add os_add (DK.of (DE.of (do_call (F := d__law_back T) (ha := (da_cons (de_var 4) da_nil))))) (dk_pk 3)))) (dk_pk 4)) (dr_cons (do_lst (da_cons (DE.of (do_call (F := d__law_form T) (ha := (da_cons (de_var 3) da_nil)))) (da_cons (DE.of (do_call (F := d__law_form T) (ha := (da_cons (de_var 4) da_nil)))) da_nil))) dr_nil)))) (dss_cons (ds_par2 7 8 (ha := (dr_cons (do_call (F := d__law_lists T) (ha := (da_cons (de_var 6) da_nil))) (dr_cons (do_call (F := d__law_form T) (ha := (da_cons (de_var 5) da_nil))) dr_nil)))) (dss_cons (ds_set 2 (h := (do_lst (da_cons (DE.of (do_call (F := d_turned_row T) (ha := (da_cons (de_var 3) (da_cons (de_var 4) da_nil))))) (da_cons (DE.of (do_call (F := d_turned_form T) (ha := (da_cons (de_ix (dk_pk 6) (DK.of de_int)) (da_cons (de_ix (dk_pk 6) (DK.of de_int)) da_nil))))) (da_cons (DE.of (do_call (F := d_turned_form T) (ha := (da_cons (de_ix (dk_pk 7) (DK.of de_int)) (da_cons (de_ix (dk_pk 7) (DK.of de_int)) da_nil))))) (da_cons (de_var 7) da_nil))))))) (dss_one (ds_if (dt_not (dt_val (DE.of (do_call (F := d__law_same T) (ha := (da_cons (de_var 2) (da_cons (DE.of (do_lst (da_cons (de_var 5) (da_cons (de_var 8) (da_cons (de_var 8) (da_cons (DE.of (do_call (F := d__law_lists T) (ha := (da_cons (de_var 6) da_nil)))) da_nil)))))) da_nil))))))) (dss_one (ds_ret (DO.of de_bl))) dss_nil)))))))) (dss_one (ds_ret (DO.of de_bl)))))
def p_law_1 : M D := (M.frz (mCall0 m__law_right (mCons (M.cel (mCall0 m__law_box (mCons (mVar 1) (mCons (mVar 2) mNil)))) mNil)))
abbrev e_law : M Fl := (sSeq (sIf (mNot (mBl (M.frz (mCall0 m__law_by_hand_right mNil)))) (sRet (M.vl (mC (.bl false)))) sNil) (sSeq (sSet 1 (mCall0 m__law_cells (mCons (mVar 0) (mCons (mC (.int 3)) mNil)))) (sRet (mCallB fAll (mKCons (mK (M.frz (mLC [2] (mRng1 (mCons (M.frz (mCallB fLen (mKCons (mPk 1) mKNil))) mNil)) (tgN 2) mYes p_law_1))) mKNil)))))
def m_law : MF := (mDef 1 3 e_law)
theorem sc_law : FnScope ["_law_script", "_law_cells_here", "_law_k"] ["_law_script"] (defScope s_law) := ⟨rfl, rfl, rfl, by decide +kernel, rfl, by decide +kernel, by decide +kernel⟩
theorem d_law (T : Tx K mg) : Def0 prog w K mg base "law" 13 ["_law_script"] m_law := by
  obtain ⟨f, fd, F, hm, hb⟩ := T.f_law
  exact (def0_ok (N := ["_law_script", "_law_cells_here", "_law_k"]) (ps := ["_law_script"]) (k := 12) (m := e_law) F sc_law hm hb fun F0 A0 H0 => (dss_cons (ds_if (dt_not (dt_val (DE.of (do_call0 (F := d__law_by_hand_right T))))) (dss_one (ds_ret (DO.of de_bl))) dss_nil) (dss_cons (ds_set 1 (h := (do_call (F := d__law_cells T) (ha := (da_cons (de_var 0) (da_cons de_int da_nil)))))) (dss_one (ds_ret (do_callB hr_all cl_all (hm := T.b_all) (ha := (dks_cons (DK.of (DE.of (do_lc (own := [("_law_k", 2)]) (hi := (di_rng1 (hm := T.b_range) (h := (da_cons (DE.of (do_callB hr_len cl_len (hm := T.b_len) (ha := (dks_cons (dk_pk 1) dks_nil)))) da_nil)))) (hg := (dg_name 2)) (h1 := dts_nil) (h2 := (DE.of (do_call (F := d__law_right T) (ha := (da_cons (DE.cel (do_call (F := d__law_box T) (ha := (da_cons (de_var 1) (da_cons (de_var 2) da_nil))))) da_nil)))))))) dks_nil))))))))
theorem law_mk {prog : Program} {w : World} {K : PySem.W.Frag} {h : Heap} {mg : Str → Option Value} {fa : Addr} (X : K.In h) (G : h.Ns mainGlobals mg) (hfa : mg "law" = some (.ref fa))
    {f1 : Addr} {od1 an1 : Option Addr} {sl1 : Array (Option Value)} {oc1 kV1 dc1 pm1 cd1 ct1 : Value}
    (a1 : PySem.W.nsIn K mainGlobals "tupled" = some (some (.ref f1))) (l1 : K.lookup f1 = some ⟨oc1, od1, .func (PySem.W.fnOf "tupled" "tupled" (defArgs s_tupled) (defBody s_tupled) (defScope s_tupled) .none kV1 dc1 pm1 an1 cd1 ct1), sl1⟩) (c1 : PySem.W.codeIn K cd1 "tupled" = true) (k1 : PySem.W.keepIn K (.ref f1) = true)
    {f2 : Addr} {od2 an2 : Option Addr} {sl2 : Array (Option Value)} {oc2 kV2 dc2 pm2 cd2 ct2 : Value}
    (a2 : PySem.W.nsIn K mainGlobals "undone" = some (some (.ref f2))) (l2 : K.lookup f2 = some ⟨oc2, od2, .func (PySem.W.fnOf "undone" "undone" (defArgs s_undone) (defBody s_undone) (defScope s_undone) .none kV2 dc2 pm2 an2 cd2 ct2), sl2⟩) (c2 : PySem.W.codeIn K cd2 "undone" = true) (k2 : PySem.W.keepIn K (.ref f2) = true)
    {f3 : Addr} {od3 an3 : Option Addr} {sl3 : Array (Option Value)} {oc3 kV3 dc3 pm3 cd3 ct3 : Value}
    (a3 : PySem.W.nsIn K mainGlobals "kept" = some (some (.ref f3))) (l3 : K.lookup f3 = some ⟨oc3, od3, .func (PySem.W.fnOf "kept" "kept" (defArgs s_kept) (defBody s_kept) (defScope s_kept) .none kV3 dc3 pm3 an3 cd3 ct3), sl3⟩) (c3 : PySem.W.codeIn K cd3 "kept" = true) (k3 : PySem.W.keepIn K (.ref f3) = true)
    {f4 : Addr} {od4 an4 : Option Addr} {sl4 : Array (Option Value)} {oc4 kV4 dc4 pm4 cd4 ct4 : Value}
    (a4 : PySem.W.nsIn K mainGlobals "letters_in" = some (some (.ref f4))) (l4 : K.lookup f4 = some ⟨oc4, od4, .func (PySem.W.fnOf "letters_in" "letters_in" (defArgs s_letters_in) (defBody s_letters_in) (defScope s_letters_in) .none kV4 dc4 pm4 an4 cd4 ct4), sl4⟩) (c4 : PySem.W.codeIn K cd4 "letters_in" = true) (k4 : PySem.W.keepIn K (.ref f4) = true)
    {f5 : Addr} {od5 an5 : Option Addr} {sl5 : Array (Option Value)} {oc5 kV5 dc5 pm5 cd5 ct5 : Value}
    (a5 : PySem.W.nsIn K mainGlobals "rests_of" = some (some (.ref f5))) (l5 : K.lookup f5 = some ⟨oc5, od5, .func (PySem.W.fnOf "rests_of" "rests_of" (defArgs s_rests_of) (defBody s_rests_of) (defScope s_rests_of) .none kV5 dc5 pm5 an5 cd5 ct5), sl5⟩) (c5 : PySem.W.codeIn K cd5 "rests_of" = true) (k5 : PySem.W.keepIn K (.ref f5) = true)
    {f6 : Addr} {od6 an6 : Option Addr} {sl6 : Array (Option Value)} {oc6 kV6 dc6 pm6 cd6 ct6 : Value}
    (a6 : PySem.W.nsIn K mainGlobals "rest_in" = some (some (.ref f6))) (l6 : K.lookup f6 = some ⟨oc6, od6, .func (PySem.W.fnOf "rest_in" "rest_in" (defArgs s_rest_in) (defBody s_rest_in) (defScope s_rest_in) .none kV6 dc6 pm6 an6 cd6 ct6), sl6⟩) (c6 : PySem.W.codeIn K cd6 "rest_in" = true) (k6 : PySem.W.keepIn K (.ref f6) = true)
    {f7 : Addr} {od7 an7 : Option Addr} {sl7 : Array (Option Value)} {oc7 kV7 dc7 pm7 cd7 ct7 : Value}
    (a7 : PySem.W.nsIn K mainGlobals "gap" = some (some (.ref f7))) (l7 : K.lookup f7 = some ⟨oc7, od7, .func (PySem.W.fnOf "gap" "gap" (defArgs s_gap) (defBody s_gap) (defScope s_gap) .none kV7 dc7 pm7 an7 cd7 ct7), sl7⟩) (c7 : PySem.W.codeIn K cd7 "gap" = true) (k7 : PySem.W.keepIn K (.ref f7) = true)
    {f8 : Addr} {od8 an8 : Option Addr} {sl8 : Array (Option Value)} {oc8 kV8 dc8 pm8 cd8 ct8 : Value}
    (a8 : PySem.W.nsIn K mainGlobals "names_for" = some (some (.ref f8))) (l8 : K.lookup f8 = some ⟨oc8, od8, .func (PySem.W.fnOf "names_for" "names_for" (defArgs s_names_for) (defBody s_names_for) (defScope s_names_for) .none kV8 dc8 pm8 an8 cd8 ct8), sl8⟩) (c8 : PySem.W.codeIn K cd8 "names_for" = true) (k8 : PySem.W.keepIn K (.ref f8) = true)
    {f9 : Addr} {od9 an9 : Option Addr} {sl9 : Array (Option Value)} {oc9 kV9 dc9 pm9 cd9 ct9 : Value}
    (a9 : PySem.W.nsIn K mainGlobals "product" = some (some (.ref f9))) (l9 : K.lookup f9 = some ⟨oc9, od9, .func (PySem.W.fnOf "product" "product" (defArgs s_product) (defBody s_product) (defScope s_product) .none kV9 dc9 pm9 an9 cd9 ct9), sl9⟩) (c9 : PySem.W.codeIn K cd9 "product" = true) (k9 : PySem.W.keepIn K (.ref f9) = true)
    {f10 : Addr} {od10 an10 : Option Addr} {sl10 : Array (Option Value)} {oc10 kV10 dc10 pm10 cd10 ct10 : Value}
    (a10 : PySem.W.nsIn K mainGlobals "product_of" = some (some (.ref f10))) (l10 : K.lookup f10 = some ⟨oc10, od10, .func (PySem.W.fnOf "product_of" "product_of" (defArgs s_product_of) (defBody s_product_of) (defScope s_product_of) .none kV10 dc10 pm10 an10 cd10 ct10), sl10⟩) (c10 : PySem.W.codeIn K cd10 "product_of" = true) (k10 : PySem.W.keepIn K (.ref f10) = true)
    {f11 : Addr} {od11 an11 : Option Addr} {sl11 : Array (Option Value)} {oc11 kV11 dc11 pm11 cd11 ct11 : Value}
    (a11 : PySem.W.nsIn K mainGlobals "power" = some (some (.ref f11))) (l11 : K.lookup f11 = some ⟨oc11, od11, .func (PySem.W.fnOf "power" "power" (defArgs s_power) (defBody s_power) (defScope s_power) .none kV11 dc11 pm11 an11 cd11 ct11), sl11⟩) (c11 : PySem.W.codeIn K cd11 "power" = true) (k11 : PySem.W.keepIn K (.ref f11) = true)
    {f12 : Addr} {od12 an12 : Option Addr} {sl12 : Array (Option Value)} {oc12 kV12 dc12 pm12 cd12 ct12 : Value}
    (a12 : PySem.W.nsIn K mainGlobals "turned_row" = some (some (.ref f12))) (l12 : K.lookup f12 = some ⟨oc12, od12, .func (PySem.W.fnOf "turned_row" "turned_row" (defArgs s_turned_row) (defBody s_turned_row) (defScope s_turned_row) .none kV12 dc12 pm12 an12 cd12 ct12), sl12⟩) (c12 : PySem.W.codeIn K cd12 "turned_row" = true) (k12 : PySem.W.keepIn K (.ref f12) = true)
    {f13 : Addr} {od13 an13 : Option Addr} {sl13 : Array (Option Value)} {oc13 kV13 dc13 pm13 cd13 ct13 : Value}
    (a13 : PySem.W.nsIn K mainGlobals "turned_form" = some (some (.ref f13))) (l13 : K.lookup f13 = some ⟨oc13, od13, .func (PySem.W.fnOf "turned_form" "turned_form" (defArgs s_turned_form) (defBody s_turned_form) (defScope s_turned_form) .none kV13 dc13 pm13 an13 cd13 ct13), sl13⟩) (c13 : PySem.W.codeIn K cd13 "turned_form" = true) (k13 : PySem.W.keepIn K (.ref f13) = true)
    {f14 : Addr} {od14 an14 : Option Addr} {sl14 : Array (Option Value)} {oc14 kV14 dc14 pm14 cd14 ct14 : Value}
    (a14 : PySem.W.nsIn K mainGlobals "_law_box" = some (some (.ref f14))) (l14 : K.lookup f14 = some ⟨oc14, od14, .func (PySem.W.fnOf "_law_box" "_law_box" (defArgs s__law_box) (defBody s__law_box) (defScope s__law_box) .none kV14 dc14 pm14 an14 cd14 ct14), sl14⟩) (c14 : PySem.W.codeIn K cd14 "_law_box" = true) (k14 : PySem.W.keepIn K (.ref f14) = true)
    {f15 : Addr} {od15 an15 : Option Addr} {sl15 : Array (Option Value)} {oc15 kV15 dc15 pm15 cd15 ct15 : Value}
    (a15 : PySem.W.nsIn K mainGlobals "_law_take" = some (some (.ref f15))) (l15 : K.lookup f15 = some ⟨oc15, od15, .func (PySem.W.fnOf "_law_take" "_law_take" (defArgs s__law_take) (defBody s__law_take) (defScope s__law_take) .none kV15 dc15 pm15 an15 cd15 ct15), sl15⟩) (c15 : PySem.W.codeIn K cd15 "_law_take" = true) (k15 : PySem.W.keepIn K (.ref f15) = true)
    {f16 : Addr} {od16 an16 : Option Addr} {sl16 : Array (Option Value)} {oc16 kV16 dc16 pm16 cd16 ct16 : Value}
    (a16 : PySem.W.nsIn K mainGlobals "_law_cells" = some (some (.ref f16))) (l16 : K.lookup f16 = some ⟨oc16, od16, .func (PySem.W.fnOf "_law_cells" "_law_cells" (defArgs s__law_cells) (defBody s__law_cells) (defScope s__law_cells) .none kV16 dc16 pm16 an16 cd16 ct16), sl16⟩) (c16 : PySem.W.codeIn K cd16 "_law_cells" = true) (k16 : PySem.W.keepIn K (.ref f16) = true)
    {f17 : Addr} {od17 an17 : Option Addr} {sl17 : Array (Option Value)} {oc17 kV17 dc17 pm17 cd17 ct17 : Value}
    (a17 : PySem.W.nsIn K mainGlobals "_law_of" = some (some (.ref f17))) (l17 : K.lookup f17 = some ⟨oc17, od17, .func (PySem.W.fnOf "_law_of" "_law_of" (defArgs s__law_of) (defBody s__law_of) (defScope s__law_of) .none kV17 dc17 pm17 an17 cd17 ct17), sl17⟩) (c17 : PySem.W.codeIn K cd17 "_law_of" = true) (k17 : PySem.W.keepIn K (.ref f17) = true)
    {f18 : Addr} {od18 an18 : Option Addr} {sl18 : Array (Option Value)} {oc18 kV18 dc18 pm18 cd18 ct18 : Value}
    (a18 : PySem.W.nsIn K mainGlobals "_law_lists" = some (some (.ref f18))) (l18 : K.lookup f18 = some ⟨oc18, od18, .func (PySem.W.fnOf "_law_lists" "_law_lists" (defArgs s__law_lists) (defBody s__law_lists) (defScope s__law_lists) .none kV18 dc18 pm18 an18 cd18 ct18), sl18⟩) (c18 : PySem.W.codeIn K cd18 "_law_lists" = true) (k18 : PySem.W.keepIn K (.ref f18) = true)
    {f19 : Addr} {od19 an19 : Option Addr} {sl19 : Array (Option Value)} {oc19 kV19 dc19 pm19 cd19 ct19 : Value}
    (a19 : PySem.W.nsIn K mainGlobals "_law_same" = some (some (.ref f19))) (l19 : K.lookup f19 = some ⟨oc19, od19, .func (PySem.W.fnOf "_law_same" "_law_same" (defArgs s__law_same) (defBody s__law_same) (defScope s__law_same) .none kV19 dc19 pm19 an19 cd19 ct19), sl19⟩) (c19 : PySem.W.codeIn K cd19 "_law_same" = true) (k19 : PySem.W.keepIn K (.ref f19) = true)
    {f20 : Addr} {od20 an20 : Option Addr} {sl20 : Array (Option Value)} {oc20 kV20 dc20 pm20 cd20 ct20 : Value}
    (a20 : PySem.W.nsIn K mainGlobals "_law_mixed" = some (some (.ref f20))) (l20 : K.lookup f20 = some ⟨oc20, od20, .func (PySem.W.fnOf "_law_mixed" "_law_mixed" (defArgs s__law_mixed) (defBody s__law_mixed) (defScope s__law_mixed) .none kV20 dc20 pm20 an20 cd20 ct20), sl20⟩) (c20 : PySem.W.codeIn K cd20 "_law_mixed" = true) (k20 : PySem.W.keepIn K (.ref f20) = true)
    {f21 : Addr} {od21 an21 : Option Addr} {sl21 : Array (Option Value)} {oc21 kV21 dc21 pm21 cd21 ct21 : Value}
    (a21 : PySem.W.nsIn K mainGlobals "_law_row" = some (some (.ref f21))) (l21 : K.lookup f21 = some ⟨oc21, od21, .func (PySem.W.fnOf "_law_row" "_law_row" (defArgs s__law_row) (defBody s__law_row) (defScope s__law_row) .none kV21 dc21 pm21 an21 cd21 ct21), sl21⟩) (c21 : PySem.W.codeIn K cd21 "_law_row" = true) (k21 : PySem.W.keepIn K (.ref f21) = true)
    {f22 : Addr} {od22 an22 : Option Addr} {sl22 : Array (Option Value)} {oc22 kV22 dc22 pm22 cd22 ct22 : Value}
    (a22 : PySem.W.nsIn K mainGlobals "_law_plain" = some (some (.ref f22))) (l22 : K.lookup f22 = some ⟨oc22, od22, .func (PySem.W.fnOf "_law_plain" "_law_plain" (defArgs s__law_plain) (defBody s__law_plain) (defScope s__law_plain) .none kV22 dc22 pm22 an22 cd22 ct22), sl22⟩) (c22 : PySem.W.codeIn K cd22 "_law_plain" = true) (k22 : PySem.W.keepIn K (.ref f22) = true)
    {f23 : Addr} {od23 an23 : Option Addr} {sl23 : Array (Option Value)} {oc23 kV23 dc23 pm23 cd23 ct23 : Value}
    (a23 : PySem.W.nsIn K mainGlobals "_law_back" = some (some (.ref f23))) (l23 : K.lookup f23 = some ⟨oc23, od23, .func (PySem.W.fnOf "_law_back" "_law_back" (defArgs s__law_back) (defBody s__law_back) (defScope s__law_back) .none kV23 dc23 pm23 an23 cd23 ct23), sl23⟩) (c23 : PySem.W.codeIn K cd23 "_law_back" = true) (k23 : PySem.W.keepIn K (.ref f23) = true)
    {f24 : Addr} {od24 an24 : Option Addr} {sl24 : Array (Option Value)} {oc24 kV24 dc24 pm24 cd24 ct24 : Value}
    (a24 : PySem.W.nsIn K mainGlobals "_law_form" = some (some (.ref f24))) (l24 : K.lookup f24 = some ⟨oc24, od24, .func (PySem.W.fnOf "_law_form" "_law_form" (defArgs s__law_form) (defBody s__law_form) (defScope s__law_form) .none kV24 dc24 pm24 an24 cd24 ct24), sl24⟩) (c24 : PySem.W.codeIn K cd24 "_law_form" = true) (k24 : PySem.W.keepIn K (.ref f24) = true)
    {f25 : Addr} {od25 an25 : Option Addr} {sl25 : Array (Option Value)} {oc25 kV25 dc25 pm25 cd25 ct25 : Value}
    (a25 : PySem.W.nsIn K mainGlobals "_law_by_hand_right" = some (some (.ref f25))) (l25 : K.lookup f25 = some ⟨oc25, od25, .func (PySem.W.fnOf "_law_by_hand_right" "_law_by_hand_right" (defArgs s__law_by_hand_right) (defBody s__law_by_hand_right) (defScope s__law_by_hand_right) .none kV25 dc25 pm25 an25 cd25 ct25), sl25⟩) (c25 : PySem.W.codeIn K cd25 "_law_by_hand_right" = true) (k25 : PySem.W.keepIn K (.ref f25) = true)
    {f26 : Addr} {od26 an26 : Option Addr} {sl26 : Array (Option Value)} {oc26 kV26 dc26 pm26 cd26 ct26 : Value}
    (a26 : PySem.W.nsIn K mainGlobals "_law_right" = some (some (.ref f26))) (l26 : K.lookup f26 = some ⟨oc26, od26, .func (PySem.W.fnOf "_law_right" "_law_right" (defArgs s__law_right) (defBody s__law_right) (defScope s__law_right) .none kV26 dc26 pm26 an26 cd26 ct26), sl26⟩) (c26 : PySem.W.codeIn K cd26 "_law_right" = true) (k26 : PySem.W.keepIn K (.ref f26) = true)
    {f27 : Addr} {od27 an27 : Option Addr} {sl27 : Array (Option Value)} {oc27 kV27 dc27 pm27 cd27 ct27 : Value}
    (a27 : PySem.W.nsIn K mainGlobals "law" = some (some (.ref f27))) (l27 : K.lookup f27 = some ⟨oc27, od27, .func (PySem.W.fnOf "law" "law" (defArgs s_law) (defBody s_law) (defScope s_law) .none kV27 dc27 pm27 an27 cd27 ct27), sl27⟩) (c27 : PySem.W.codeIn K cd27 "law" = true) (k27 : PySem.W.keepIn K (.ref f27) = true)
    (z_abs : PySem.W.nsIn K mainGlobals "abs" = some none)
    (z_all : PySem.W.nsIn K mainGlobals "all" = some none)
    (z_bool : PySem.W.nsIn K mainGlobals "bool" = some none)
    (z_enumerate : PySem.W.nsIn K mainGlobals "enumerate" = some none)
    (z_int : PySem.W.nsIn K mainGlobals "int" = some none)
    (z_isinstance : PySem.W.nsIn K mainGlobals "isinstance" = some none)
    (z_len : PySem.W.nsIn K mainGlobals "len" = some none)
    (z_list : PySem.W.nsIn K mainGlobals "list" = some none)
    (z_range : PySem.W.nsIn K mainGlobals "range" = some none)
    (z_set : PySem.W.nsIn K mainGlobals "set" = some none)
    (z_sorted : PySem.W.nsIn K mainGlobals "sorted" = some none)
    (z_str : PySem.W.nsIn K mainGlobals "str" = some none)
    (z_tuple : PySem.W.nsIn K mainGlobals "tuple" = some none)
    (z_zip : PySem.W.nsIn K mainGlobals "zip" = some none)
    {p1_NOTHING p2_NOTHING p3_NOTHING p4_NOTHING : Addr} {d1_NOTHING d2_NOTHING d3_NOTHING d4_NOTHING : Option Addr} {n1_NOTHING n2_NOTHING n3_NOTHING n4_NOTHING : Nat} {s1_NOTHING s2_NOTHING s3_NOTHING s4_NOTHING : Array (Option Value)}
    (g_NOTHING : PySem.W.nsIn K mainGlobals "NOTHING" = some (some (.ref p1_NOTHING)))
    (q1_NOTHING : K.lookup p1_NOTHING = some ⟨.type "tuple", d1_NOTHING, .seq #[.ref p2_NOTHING, .ref p3_NOTHING, .ref p4_NOTHING] n1_NOTHING, s1_NOTHING⟩)
    (q2_NOTHING : K.lookup p2_NOTHING = some ⟨.type "tuple", d2_NOTHING, .seq #[] n2_NOTHING, s2_NOTHING⟩)
    (q3_NOTHING : K.lookup p3_NOTHING = some ⟨.type "tuple", d3_NOTHING, .seq #[] n3_NOTHING, s3_NOTHING⟩)
    (q4_NOTHING : K.lookup p4_NOTHING = some ⟨.type "tuple", d4_NOTHING, .seq #[] n4_NOTHING, s4_NOTHING⟩)
    {t_LETTERS : Tok} (g_LETTERS : PySem.W.nsIn K mainGlobals "LETTERS" = some (some (.str (mkS [97, 98, 99, 100, 101, 102, 103, 104]) t_LETTERS)))
    {t_THREE : Tok} (g_THREE : PySem.W.nsIn K mainGlobals "THREE" = some (some (.int 3 t_THREE)))
    {t_TWICE : Tok} (g_TWICE : PySem.W.nsIn K mainGlobals "TWICE" = some (some (.int 2 t_TWICE))) :
    ∃ fd : FuncData, (∀ (s : Shared) (u : Value), BindsTo s fd ⟨[u], []⟩ [("_law_script", u)]) ∧ ∀ base : Heap, K.In base → base.Ns mainGlobals mg → FnOk prog w K mg base CX0 13 fa fd ["_law_script"] (sp0 K m_law) :=
  law_at (fun_mk (st := s_law) l27 c27 k27) (PySem.W.mg_of X G a27) hfa (fun _ _ _ _ _ _ _ => rfl) fun base => d_law ⟨⟨f1, _, fun_mk (st := s_tupled) l1 c1 k1, PySem.W.mg_of X G a1, (fun_mk (st := s_tupled) l1 c1 k1).binds fun _ _ _ _ _ _ us hl => match us, hl with | [_], _ => rfl⟩, ⟨f2, _, fun_mk (st := s_undone) l2 c2 k2, PySem.W.mg_of X G a2, (fun_mk (st := s_undone) l2 c2 k2).binds fun _ _ _ _ _ _ us hl => match us, hl with | [_], _ => rfl⟩, ⟨f3, _, fun_mk (st := s_kept) l3 c3 k3, PySem.W.mg_of X G a3, (fun_mk (st := s_kept) l3 c3 k3).binds fun _ _ _ _ _ _ us hl => match us, hl with | [_], _ => rfl⟩, ⟨f4, _, fun_mk (st := s_letters_in) l4 c4 k4, PySem.W.mg_of X G a4, (fun_mk (st := s_letters_in) l4 c4 k4).binds fun _ _ _ _ _ _ us hl => match us, hl with | [_], _ => rfl⟩, ⟨f5, _, fun_mk (st := s_rests_of) l5 c5 k5, PySem.W.mg_of X G a5, (fun_mk (st := s_rests_of) l5 c5 k5).binds fun _ _ _ _ _ _ us hl => match us, hl with | [_], _ => rfl⟩, ⟨f6, _, fun_mk (st := s_rest_in) l6 c6 k6, PySem.W.mg_of X G a6, (fun_mk (st := s_rest_in) l6 c6 k6).binds fun _ _ _ _ _ _ us hl => match us, hl with | [_, _], _ => rfl⟩, ⟨f7, _, fun_mk (st := s_gap) l7 c7 k7, PySem.W.mg_of X G a7, (fun_mk (st := s_gap) l7 c7 k7).binds fun _ _ _ _ _ _ us hl => match us, hl with | [_, _, _], _ => rfl⟩, ⟨f8, _, fun_mk (st := s_names_for) l8 c8 k8, PySem.W.mg_of X G a8, (fun_mk (st := s_names_for) l8 c8 k8).binds fun _ _ _ _ _ _ us hl => match us, hl with | [_], _ => rfl⟩, ⟨f9, _, fun_mk (st := s_product) l9 c9 k9, PySem.W.mg_of X G a9, (fun_mk (st := s_product) l9 c9 k9).binds fun _ _ _ _ _ _ us hl => match us, hl with | [_, _], _ => rfl⟩, ⟨f10, _, fun_mk (st := s_product_of) l10 c10 k10, PySem.W.mg_of X G a10, (fun_mk (st := s_product_of) l10 c10 k10).binds fun _ _ _ _ _ _ us hl => match us, hl with | [_], _ => rfl⟩, ⟨f11, _, fun_mk (st := s_power) l11 c11 k11, PySem.W.mg_of X G a11, (fun_mk (st := s_power) l11 c11 k11).binds fun _ _ _ _ _ _ us hl => match us, hl with | [_, _], _ => rfl⟩, ⟨f12, _, fun_mk (st := s_turned_row) l12 c12 k12, PySem.W.mg_of X G a12, (fun_mk (st := s_turned_row) l12 c12 k12).binds fun _ _ _ _ _ _ us hl => match us, hl with | [_, _], _ => rfl⟩, ⟨f13, _, fun_mk (st := s_turned_form) l13 c13 k13, PySem.W.mg_of X G a13, (fun_mk (st := s_turned_form) l13 c13 k13).binds fun _ _ _ _ _ _ us hl => match us, hl with | [_, _], _ => rfl⟩, ⟨f14, _, fun_mk (st := s__law_box) l14 c14 k14, PySem.W.mg_of X G a14, (fun_mk (st := s__law_box) l14 c14 k14).binds fun _ _ _ _ _ _ us hl => match us, hl with | [_, _], _ => rfl⟩, ⟨f15, _, fun_mk (st := s__law_take) l15 c15 k15, PySem.W.mg_of X G a15, (fun_mk (st := s__law_take) l15 c15 k15).binds fun _ _ _ _ _ _ us hl => match us, hl with | [_, _], _ => rfl⟩, ⟨f16, _, fun_mk (st := s__law_cells) l16 c16 k16, PySem.W.mg_of X G a16, (fun_mk (st := s__law_cells) l16 c16 k16).binds fun _ _ _ _ _ _ us hl => match us, hl with | [_, _], _ => rfl⟩, ⟨f17, _, fun_mk (st := s__law_of) l17 c17 k17, PySem.W.mg_of X G a17, (fun_mk (st := s__law_of) l17 c17 k17).binds fun _ _ _ _ _ _ us hl => match us, hl with | [_, _], _ => rfl⟩, ⟨f18, _, fun_mk (st := s__law_lists) l18 c18 k18, PySem.W.mg_of X G a18, (fun_mk (st := s__law_lists) l18 c18 k18).binds fun _ _ _ _ _ _ us hl => match us, hl with | [_], _ => rfl⟩, ⟨f19, _, fun_mk (st := s__law_same) l19 c19 k19, PySem.W.mg_of X G a19, (fun_mk (st := s__law_same) l19 c19 k19).binds fun _ _ _ _ _ _ us hl => match us, hl with | [_, _], _ => rfl⟩, ⟨f20, _, fun_mk (st := s__law_mixed) l20 c20 k20, PySem.W.mg_of X G a20, (fun_mk (st := s__law_mixed) l20 c20 k20).binds fun _ _ _ _ _ _ us hl => match us, hl with | [_, _], _ => rfl⟩, ⟨f21, _, fun_mk (st := s__law_row) l21 c21 k21, PySem.W.mg_of X G a21, (fun_mk (st := s__law_row) l21 c21 k21).binds fun _ _ _ _ _ _ us hl => match us, hl with | [_, _, _], _ => rfl⟩, ⟨f22, _, fun_mk (st := s__law_plain) l22 c22 k22, PySem.W.mg_of X G a22, (fun_mk (st := s__law_plain) l22 c22 k22).binds fun _ _ _ _ _ _ us hl => match us, hl with | [_], _ => rfl⟩, ⟨f23, _, fun_mk (st := s__law_back) l23 c23 k23, PySem.W.mg_of X G a23, (fun_mk (st := s__law_back) l23 c23 k23).binds fun _ _ _ _ _ _ us hl => match us, hl with | [_], _ => rfl⟩, ⟨f24, _, fun_mk (st := s__law_form) l24 c24 k24, PySem.W.mg_of X G a24, (fun_mk (st := s__law_form) l24 c24 k24).binds fun _ _ _ _ _ _ us hl => match us, hl with | [_], _ => rfl⟩, ⟨f25, _, fun_mk (st := s__law_by_hand_right) l25 c25 k25, PySem.W.mg_of X G a25, (fun_mk (st := s__law_by_hand_right) l25 c25 k25).binds fun _ _ _ _ _ _ us hl => match us, hl with | [], _ => rfl⟩, ⟨f26, _, fun_mk (st := s__law_right) l26 c26 k26, PySem.W.mg_of X G a26, (fun_mk (st := s__law_right) l26 c26 k26).binds fun _ _ _ _ _ _ us hl => match us, hl with | [_], _ => rfl⟩, ⟨f27, _, fun_mk (st := s_law) l27 c27 k27, PySem.W.mg_of X G a27, (fun_mk (st := s_law) l27 c27 k27).binds fun _ _ _ _ _ _ us hl => match us, hl with | [_], _ => rfl⟩, PySem.W.mg_none_of X G z_abs, PySem.W.mg_none_of X G z_all, PySem.W.mg_none_of X G z_bool, PySem.W.mg_none_of X G z_enumerate, PySem.W.mg_none_of X G z_int, PySem.W.mg_none_of X G z_isinstance, PySem.W.mg_none_of X G z_len, PySem.W.mg_none_of X G z_list, PySem.W.mg_none_of X G z_range, PySem.W.mg_none_of X G z_set, PySem.W.mg_none_of X G z_sorted, PySem.W.mg_none_of X G z_str, PySem.W.mg_none_of X G z_tuple, PySem.W.mg_none_of X G z_zip, ⟨p1_NOTHING, PySem.W.mg_of X G g_NOTHING, r_none3 q1_NOTHING (r_emp q2_NOTHING) (r_emp q3_NOTHING) (r_emp q4_NOTHING)⟩, ⟨_, PySem.W.mg_of X G g_LETTERS, _, rfl⟩, ⟨_, PySem.W.mg_of X G g_THREE, _, rfl⟩, ⟨_, PySem.W.mg_of X G g_TWICE, _, rfl⟩⟩
end
end Thr.K24
namespace Thr
open PySem PySem.Spec PyProof.Rows L2 RZ Sh

/-! ### what is drawn -/
/-- the box at n, t draws taken -/
def Bx (S : Store) (n t : Nat) : Prop := ∃ a b c : Int, S[n]? = some (.lst [.int a, .int b, .int c]) ∧ 0 ≤ b ∧ b < 9223372036854775808 ∧ 0 ≤ c ∧ c ≤ (t : Int) ∧ S.all flatC = true
theorem Bx.flat {S : Store} {n t : Nat} (h : Bx S n t) : S.all flatC = true := by
  obtain ⟨_, _, _, _, _, _, _, _, h⟩ := h
  exact h
theorem flat_set {S : Store} {n : Nat} {c : Cell} (h : S.all flatC = true) (hc : flatC c = true) : (S.set n c).all flatC = true := by
  rw [List.all_eq_true] at h ⊢
  intro x hx
  rcases List.mem_or_eq_of_mem_set hx with q | q
  · exact h x q
  · rw [q]; exact hc
theorem take_spec {S : Store} {n t : Nat} {k : Int} (h : Bx S n t) (ht : t < 1000000000) (hk : 0 < k) (hk2 : k < 1073741824) : ∃ r S', m__law_take [.cel n, .int k] S = .ok (.val (.int r)) S' ∧ 0 ≤ r ∧ r < k ∧ Bx S' n (t + 1) := by
  obtain ⟨a, b, c, e, hb, hb2, hc, hc2, hF⟩ := h
  have hn : n < S.length := (List.getElem?_eq_some_iff.mp e).1
  by_cases ha : 0 < a
  · refine ⟨a % k, S.set n (.lst [.int (a / k), .int b, .int c]), ?_, Int.emod_nonneg _ (by omega), Int.emod_lt_of_pos _ hk, a / k, b, c, by rw [List.getElem?_set_self hn], hb, hb2, hc, by omega, flat_set hF rfl⟩
    unfold m__law_take mDef
    simp [e__law_take, sSeq, sIf, mIf, M.bind, mCmp, mOpV, mPk, mK, mC, M.ret, M.opt, M.look, Pk.get, Sl.view, view, e, dIx, atD, dGt, ha, sSet, sSub, mOp, M.frz, mCallB, mKCons, mKNil, M.looks, Pk.gets, fInt, dMod, sPut, RV.toSl, RV.toD, sRet, M.vl, mVar, hk, hk2, dFdiv, mStore, lstAt, putAt, ixD, ixN, RV.out]
  · have h2 : CMulB (b + 48271 * (c + 1)) (39373 + (c + 1)) = true := by
      unfold CMulB
      have h1 : decide (-(2 ^ 64) < 39373 + (c + 1)) = true := decide_eq_true (by omega)
      have h' : decide (39373 + (c + 1) < 2 ^ 64) = true := decide_eq_true (by omega)
      rw [h1, h']; simp
    have h1 : CMulB 48271 (c + 1) = true := by unfold CMulB; simp
    generalize eo : (b + 48271 * (c + 1)) * (39373 + (c + 1)) % 2147483647 = o
    have ho : 0 ≤ o ∧ o < 2147483647 := by rw [← eo]; exact ⟨Int.emod_nonneg _ (by omega), Int.emod_lt_of_pos _ (by omega)⟩
    have h3 : CMulB (o + (c + 1) + b / 1000003) (o % 40009 + 7) = true := by
      unfold CMulB
      have h1 : decide (-(2 ^ 64) < o % 40009 + 7) = true := decide_eq_true (by omega)
      have h' : decide (o % 40009 + 7 < 2 ^ 64) = true := decide_eq_true (by omega)
      rw [h1, h']; simp
    have e2 : ∀ x, (S.set n x)[n]? = some x := fun x => List.getElem?_set_self hn
    have h4 : ∀ i, CMulB i 48271 = true := fun i => by unfold CMulB; simp
    refine ⟨((o + (c + 1) + b / 1000003) * (o % 40009 + 7) % 2147483629 * 48271 + o) % 2147483587 / 64 % k, S.set n (.lst [.int a, .int b, .int (c + 1)]), ?_, Int.emod_nonneg _ (by omega), Int.emod_lt_of_pos _ hk, a, b, c + 1, by rw [List.getElem?_set_self hn], hb, hb2, by omega, by omega, flat_set hF rfl⟩
    unfold m__law_take mDef
    simp [e__law_take, sSeq, sNil, sIf, mIf, M.bind, mCmp, mOpV, mPk, mK, mC, M.ret, M.opt, M.look, Pk.get, Sl.view, view, e, dIx, atD, dGt, ha, sSet, sSub, mOp, M.frz, mCallB, mKCons, mKNil, M.looks, Pk.gets, fInt, dMod, dMul, dAdd, sPut, RV.toSl, RV.toD, sRet, M.vl, mVar, hk, hk2, dFdiv, mStore, lstAt, putAt, ixD, ixN, RV.out, h1, h2, h3, h4, eo, e2]
end Thr
namespace Thr
open PySem PySem.Spec PyProof.Rows L2 RZ Sh

theorem SZ_is : SZ = 16777216 := rfl
/-! ### loops, comprehensions -/
theorem forL_inv {tg : D → M Fl} {body : M Fl} (I : Nat → Env → Store → Prop) : ∀ (ds : List D) (k : Nat) (ρ : Env) (S : Store), I k ρ S →
    (∀ (i : Nat) d ρ S, ds[i]? = some d → I (k + i) ρ S → ∃ ρ1 S1 f ρ2 S2, tg d ρ S = .ok .nx ρ1 S1 ∧ body ρ1 S1 = .ok f ρ2 S2 ∧ (f = .nx ∨ f = .ct) ∧ I (k + i + 1) ρ2 S2) → ∃ ρ' S', forL tg body ds ρ S = .ok .nx ρ' S' ∧ I (k + ds.length) ρ' S'
  | [], k, ρ, S, h, _ => ⟨ρ, S, rfl, h⟩
  | d :: ds, k, ρ, S, h, st => by
    obtain ⟨ρ1, S1, f, ρ2, S2, e1, e2, hf, h2⟩ := st 0 d ρ S rfl h
    obtain ⟨ρ', S', e3, h3⟩ := forL_inv I ds (k + 1) ρ2 S2 h2 fun i d' ρ S hi hI => by
      have := st (i + 1) d' ρ S hi (by rw [show k + (i + 1) = k + 1 + i by omega]; exact hI)
      rw [show k + (i + 1) = k + 1 + i by omega] at this
      exact this
    refine ⟨ρ', S', ?_, by rw [List.length_cons, show k + (ds.length + 1) = k + 1 + ds.length by omega]; exact h3⟩
    unfold forL
    rw [e1]
    dsimp only
    rw [e2]
    rcases hf with rfl | rfl <;> exact e3
theorem lcL_map {vs : List Nat} {mt : D → M Fl} {tt : M Bool} {te : M D} (f : D → D) : ∀ (ds : List D) (ρ : Env) (S : Store),
    (∀ d, d ∈ ds → ∀ ρ0, wipeE ρ0 vs = wipeE ρ vs → ∃ ρ1 ρ2 ρ3, mt d (wipeE ρ0 vs) S = .ok .nx ρ1 S ∧ tt ρ1 S = .ok true ρ2 S ∧ te ρ2 S = .ok (f d) ρ3 S ∧ wipeE ρ3 vs = wipeE ρ vs) → ∃ ρ', lcL vs mt tt te ds ρ S = .ok (ds.map f) ρ' S ∧ wipeE ρ' vs = wipeE ρ vs
  | [], ρ, S, _ => ⟨ρ, rfl, rfl⟩
  | d :: ds, ρ, S, h => by
    obtain ⟨ρ1, ρ2, ρ3, e1, e2, e3, e4⟩ := h d (List.mem_cons_self ..) ρ rfl
    obtain ⟨ρ', e5, e6⟩ := lcL_map f ds ρ3 S fun d' hd ρ0 h0 => by
      obtain ⟨a, b, c, x1, x2, x3, x4⟩ := h d' (List.mem_cons_of_mem _ hd) ρ0 (h0.trans e4)
      exact ⟨a, b, c, x1, x2, x3, x4.trans e4.symm⟩
    refine ⟨ρ', ?_, e6.trans e4⟩
    unfold lcL
    rw [e1]
    dsimp only
    rw [e2]
    dsimp only
    rw [e3]
    dsimp only
    rw [e5]
    rfl
theorem lcL_filter {vs : List Nat} {mt : D → M Fl} {tt : M Bool} {te : M D} (p : D → Bool) (f : D → D) : ∀ (ds : List D) (ρ : Env) (S : Store),
    (∀ d, d ∈ ds → ∀ ρ0, wipeE ρ0 vs = wipeE ρ vs → ∃ ρ1 ρ2, mt d (wipeE ρ0 vs) S = .ok .nx ρ1 S ∧ tt ρ1 S = .ok (p d) ρ2 S ∧ wipeE ρ2 vs = wipeE ρ vs ∧ (p d = true → ∃ ρ3, te ρ2 S = .ok (f d) ρ3 S ∧ wipeE ρ3 vs = wipeE ρ vs)) → ∃ ρ', lcL vs mt tt te ds ρ S = .ok ((ds.filter p).map f) ρ' S ∧ wipeE ρ' vs = wipeE ρ vs
  | [], ρ, S, _ => ⟨ρ, rfl, rfl⟩
  | d :: ds, ρ, S, h => by
    obtain ⟨ρ1, ρ2, e1, e2, e3, e4⟩ := h d (List.mem_cons_self ..) ρ rfl
    unfold lcL
    rw [e1]
    dsimp only
    rw [e2]
    cases q : p d with
    | true =>
      obtain ⟨ρ3, e5, e6⟩ := e4 q
      obtain ⟨ρ', e7, e8⟩ := lcL_filter p f ds ρ3 S fun d' hd ρ0 h0 => by
        obtain ⟨a, b, x1, x2, x3, x4⟩ := h d' (List.mem_cons_of_mem _ hd) ρ0 (h0.trans e6)
        refine ⟨a, b, x1, x2, x3.trans e6.symm, fun z => ?_⟩
        obtain ⟨c, y1, y2⟩ := x4 z
        exact ⟨c, y1, y2.trans e6.symm⟩
      refine ⟨ρ', ?_, e8.trans e6⟩
      dsimp only
      rw [e5]
      dsimp only
      rw [e7, List.filter_cons_of_pos q]
      rfl
    | false =>
      obtain ⟨ρ', e7, e8⟩ := lcL_filter p f ds ρ2 S fun d' hd ρ0 h0 => by
        obtain ⟨a, b, x1, x2, x3, x4⟩ := h d' (List.mem_cons_of_mem _ hd) ρ0 (h0.trans e3)
        refine ⟨a, b, x1, x2, x3.trans e3.symm, fun z => ?_⟩
        obtain ⟨c, y1, y2⟩ := x4 z
        exact ⟨c, y1, y2.trans e3.symm⟩
      refine ⟨ρ', ?_, e8.trans e3⟩
      dsimp only
      rw [e7, List.filter_cons_of_neg (by rw [q]; simp)]
theorem sIx_pos (n d i : Nat) : HT.sIx n d (some (i : Int)) = min i n := HT.sIx_nat n d i
theorem dCut_to {α : Type} (xs : List α) (i : Nat) : dCut xs none (some (i : Int)) = xs.take i := by
  unfold dCut
  rw [sIx_pos]
  show (xs.drop 0).take (min i xs.length - 0) = _
  rw [List.drop_zero, Nat.sub_zero]
  by_cases h : i ≤ xs.length
  · rw [Nat.min_eq_left h]
  · rw [Nat.min_eq_right (by omega), List.take_of_length_le (Nat.le_refl _), List.take_of_length_le (by omega)]
theorem dCut_from {α : Type} (xs : List α) (i : Nat) : dCut xs (some (i : Int)) none = xs.drop i := by
  unfold dCut
  rw [sIx_pos]
  show (xs.drop (min i xs.length)).take (xs.length - min i xs.length) = _
  rw [List.take_of_length_le (by simp)]
  by_cases h : i ≤ xs.length
  · rw [Nat.min_eq_left h]
  · rw [Nat.min_eq_right (by omega), List.drop_eq_nil_of_le (Nat.le_refl _), List.drop_eq_nil_of_le (by omega)]
theorem dCut_in {α : Type} (xs : List α) (i j : Nat) : dCut xs (some (i : Int)) (some (j : Int)) = (xs.drop i).take (j - i) := by
  unfold dCut
  rw [sIx_pos, sIx_pos]
  by_cases h : i ≤ xs.length
  · rw [Nat.min_eq_left h]
    by_cases h' : j ≤ xs.length
    · rw [Nat.min_eq_left h']
    · rw [Nat.min_eq_right (by omega), List.take_of_length_le (by simp), List.take_of_length_le (by simp; omega)]
  · rw [Nat.min_eq_right (show xs.length ≤ i by omega), List.drop_eq_nil_of_le (Nat.le_refl _), List.drop_eq_nil_of_le (show xs.length ≤ i by omega)]
    simp
end Thr
namespace Thr
open PySem PySem.Spec PyProof.Rows L2 RZ Sh

/-! ### the cells of a script -/
abbrev intL (cs : List Int) : List D := cs.map D.int
theorem cells_step {m k c : Int} {cs : List Int} {x : D} {s5 : Sl} {S : Store} (hm : 0 < m) (hm2 : m < 1073741824) (hl : (cs.length : Int) = m) (hk : 0 ≤ k) (hk2 : k < 1000000) :
    ∃ cs' : List Int, cs'.length = cs.length ∧ p__law_cells_1 [.val x, .val (.int m), .own (intL cs), .val (.int k), .val (.int c), s5] S = .ok .nx [.val x, .val (.int m), .own (intL cs'), .val (.int k), .val (.int c), .val (.int (k % m))] S := by
  have h0 : 0 ≤ k % m := Int.emod_nonneg _ (by omega)
  have h1 : k % m < m := Int.emod_lt_of_pos _ hm
  have hi : (k % m).toNat < cs.length := by omega
  have hm4 : CMulB c (k + 2) = true := by
    unfold CMulB
    have h1 : decide (-(2 ^ 64) < k + 2) = true := decide_eq_true (by omega)
    have h' : decide (k + 2 < 2 ^ 64) = true := decide_eq_true (by omega)
    rw [h1, h']; simp
  have e1 : (intL cs)[(k % m).toNat]? = some (.int cs[(k % m).toNat]) := by
    rw [List.getElem?_map, List.getElem?_eq_getElem hi]; rfl
  have e2 : ixN (intL cs).length (k % m) = some (k % m).toNat := by
    unfold ixN
    rw [if_pos h0, if_pos (by rw [List.length_map]; omega)]
  refine ⟨cs.set (k % m).toNat (cs[(k % m).toNat] + c * (k + 2)), by simp, ?_⟩
  unfold p__law_cells_1
  simp [sSeq, sSet, sPut, M.bind, mOp, mK, M.frz, mCallB, mKCons, mKNil, mPk, M.ret, M.looks, Pk.gets, Pk.get, Sl.view, view, fInt, M.opt, M.look, RV.toD, RV.toSl, dMod, hm, sSub, mOpV, dIx, atD, h0, mC, mVar, dAdd, dMul, hm4, mStore, lstAt, putAt, ixD, e1, e2, List.map_set, -List.getElem?_map, -List.length_map]
theorem enumD_at {ds : List D} {k i : Nat} {d : D} (h : (enumD k ds)[i]? = some d) : ∃ x, ds[i]? = some x ∧ d = .tup [.int ((k + i : Nat) : Int), x] := by
  rw [enumD_get] at h
  cases e : ds[i]? with
  | none => rw [e] at h; cases h
  | some x => rw [e] at h; cases h; exact ⟨x, rfl, rfl⟩
theorem cells_spec {ns : List Int} {m : Nat} {S : Store} (hm : 0 < m) (hm2 : m ≤ 63) : ∃ cs : List Int, m__law_cells [.rol (intL ns), .int m] S = .ok (.val (.lst (intL cs))) S ∧ 0 < cs.length ∧ cs.length ≤ m := by
  have t1 : dCut (intL ns) none (some (m : Int)) = intL (ns.take m) := by rw [dCut_to]; simp [intL, List.map_take]
  have t2 : dCut (intL ns) (some (m : Int)) (some 63) = intL ((ns.drop m).take (63 - m)) := by
    have := dCut_in (intL ns) m 63
    rw [show ((63 : Nat) : Int) = 63 from rfl] at this
    rw [this]; simp [intL, List.map_take, List.map_drop]
  have loop : ∀ cs : List Int, 0 < cs.length → cs.length ≤ m → ((ns.drop m).take (63 - m) = [] ∨ cs.length = m) → ∀ s3 s4 s5, ∃ cs' : List Int, 0 < cs'.length ∧ cs'.length ≤ m ∧ ∃ s3' s4' s5', forL (tgT [3, 4]) p__law_cells_1 (enumD 0 (intL ((ns.drop m).take (63 - m)))) [.val (.rol (intL ns)), .val (.int m), .own (intL cs), s3, s4, s5] S = .ok .nx [.val (.rol (intL ns)), .val (.int m), .own (intL cs'), s3', s4', s5'] S := by
    intro cs h0 h1 h2 s3 s4 s5
    have step : ∀ (i : Nat) d ρ S', (enumD 0 (intL ((ns.drop m).take (63 - m))))[i]? = some d → (∃ (cs' : List Int) (s3 s4 s5 : Sl), ρ = [.val (.rol (intL ns)), .val (.int m), .own (intL cs'), s3, s4, s5] ∧ S' = S ∧ cs'.length = cs.length) →
        ∃ ρ1 S1 f ρ2 S2, tgT [3, 4] d ρ S' = .ok .nx ρ1 S1 ∧ p__law_cells_1 ρ1 S1 = .ok f ρ2 S2 ∧ (f = .nx ∨ f = .ct) ∧ ∃ (cs' : List Int) (s3 s4 s5 : Sl), ρ2 = [.val (.rol (intL ns)), .val (.int m), .own (intL cs'), s3, s4, s5] ∧ S2 = S ∧ cs'.length = cs.length := by
      rintro i d ρ S' hi ⟨cs1, s3, s4, s5, rfl, rfl, hl⟩
      obtain ⟨x, hx, rfl⟩ := enumD_at hi
      rw [List.getElem?_map] at hx
      cases ey : ((ns.drop m).take (63 - m))[i]? with
      | none => rw [ey] at hx; cases hx
      | some c =>
        rw [ey] at hx; cases hx
        have hlen : cs.length = m := by
          rcases h2 with z | z
          · rw [z] at ey; simp at ey
          · exact z
        have hi63 : i < 63 := by
          have := (List.getElem?_eq_some_iff.mp ey).1
          simp at this; omega
        obtain ⟨cs2, q1, q2⟩ := cells_step (m := (m : Int)) (k := ((0 + i : Nat) : Int)) (c := c) (cs := cs1) (x := .rol (intL ns)) (s5 := s5) (S := S') (by omega) (by omega) (by omega) (by omega) (by omega)
        exact ⟨[.val (.rol (intL ns)), .val (.int m), .own (intL cs1), .val (.int ((0 + i : Nat) : Int)), .val (.int c), s5], S', .nx, _, S', rfl, q2, .inl rfl, cs2, _, _, _, rfl, rfl, by omega⟩
    obtain ⟨ρ', S', e, cs', s3', s4', s5', rfl, rfl, hl⟩ := forL_inv (tg := tgT [3, 4]) (body := p__law_cells_1) (fun _ ρ S' => ∃ (cs' : List Int) (s3 s4 s5 : Sl), ρ = [.val (.rol (intL ns)), .val (.int m), .own (intL cs'), s3, s4, s5] ∧ S' = S ∧ cs'.length = cs.length) (enumD 0 (intL ((ns.drop m).take (63 - m)))) 0 _ S ⟨cs, s3, s4, s5, rfl, rfl, rfl⟩ step
    exact ⟨cs', by omega, by omega, s3', s4', s5', e⟩
  cases ns with
  | nil =>
    obtain ⟨cs', l1, l2, s3', s4', s5', el⟩ := loop [0] (by simp) (by simp; omega) (.inl (by simp)) .un .un .un
    refine ⟨cs', ?_, l1, l2⟩
    unfold m__law_cells
    simp only [List.map_nil, List.drop_nil, List.take_nil] at t1 t2 el ⊢
    simp [sSeq, sNil, sIf, sRet, sRetN, sSet, sPut, sDrop, sPars, rNil, rCons, putRVs, mIf, M.bind, M.ret, M.opt, M.look, M.looks, M.frz, M.vl, M.cel, mCmp, mB, mBl, dBl, mTru, dTru, mNot, mAnd, mOr, mAndV, mOrV, mNotV, mNil, mCons, mTup, mLst, mOp, mOpV, mPk, mK, mC, mVar, Pk.get, Pk.gets, Sl.view, view, mKNil, mKCons, mCallB, mCall0, mCallK, permL, dIx, atD, dAdd, dSub, dMod, dFdiv, dNeg, mNeg, dGt, dLt, dGe, dLe, dEq, dNe, RV.toSl, RV.toD, RV.out, RV.tru, mOrT, mSl, mPart, mNoP, dInt, dSl, fLen, fInt, fAbs, fList, fTuple, seqOf, sqOf, sFor, mRng1, mRng2, rng1, rng2, mEnum, enum1, mZip, zip2, lstOf, tgN, tgT, tgNs, mYes, mM0, mM1, mRevS, revS, mRevL, revL, dIn, dNotIn, mStore, lstAt, putAt, ixD, ixN, sSub, mApp, mListS, listS, mItS, strOf, mItA, lstOr, mItL, mItT, tupOf, mSSet, dSSet, mDef, sAug, dAddI, dSubI, SZ, M.alt, mGet2, isDic, dGetOr, dGet, mDNew, sDput, chkD, putD, sAsg, fLenD, mChain, dCount, dMul, e__law_cells, t1, t2]
    simp at el
    rw [el]
    simp [sSeq, sNil, sIf, sRet, sRetN, sSet, sPut, sDrop, sPars, rNil, rCons, putRVs, mIf, M.bind, M.ret, M.opt, M.look, M.looks, M.frz, M.vl, M.cel, mCmp, mB, mBl, dBl, mTru, dTru, mNot, mAnd, mOr, mAndV, mOrV, mNotV, mNil, mCons, mTup, mLst, mOp, mOpV, mPk, mK, mC, mVar, Pk.get, Pk.gets, Sl.view, view, mKNil, mKCons, mCallB, mCall0, mCallK, permL, dIx, atD, dAdd, dSub, dMod, dFdiv, dNeg, mNeg, dGt, dLt, dGe, dLe, dEq, dNe, RV.toSl, RV.toD, RV.out, RV.tru, mOrT, mSl, mPart, mNoP, dInt, dSl, fLen, fInt, fAbs, fList, fTuple, seqOf, sqOf, sFor, mRng1, mRng2, rng1, rng2, mEnum, enum1, mZip, zip2, lstOf, tgN, tgT, tgNs, mYes, mM0, mM1, mRevS, revS, mRevL, revL, dIn, dNotIn, mStore, lstAt, putAt, ixD, ixN, sSub, mApp, mListS, listS, mItS, strOf, mItA, lstOr, mItL, mItT, tupOf, mSSet, dSSet, mDef, sAug, dAddI, dSubI, SZ, M.alt, mGet2, isDic, dGetOr, dGet, mDNew, sDput, chkD, putD, sAsg, fLenD, mChain, dCount, dMul]
  | cons n ns =>
    obtain ⟨cs', l1, l2, s3', s4', s5', el⟩ := loop ((n :: ns).take m) (by simp; omega) (by simp; omega) (by
      by_cases h : (n :: ns).length ≤ m
      · left; rw [List.drop_eq_nil_of_le h]; simp
      · right; rw [List.length_take]; omega) .un .un .un
    refine ⟨cs', ?_, l1, l2⟩
    unfold m__law_cells
    have ne : (intL ((n :: ns).take m)).isEmpty = false := by
      cases m with
      | zero => omega
      | succ k => rfl
    clear loop
    generalize intL (n :: ns) = W at t1 t2 el ⊢
    generalize intL ((n :: ns).take m) = W1 at t1 el ne ⊢
    generalize intL (((n :: ns).drop m).take (63 - m)) = W2 at t2 el ⊢
    simp [sSeq, sNil, sIf, sRet, sRetN, sSet, sPut, sDrop, sPars, rNil, rCons, putRVs, mIf, M.bind, M.ret, M.opt, M.look, M.looks, M.frz, M.vl, M.cel, mCmp, mB, mBl, dBl, mTru, dTru, mNot, mAnd, mOr, mAndV, mOrV, mNotV, mNil, mCons, mTup, mLst, mOp, mOpV, mPk, mK, mC, mVar, Pk.get, Pk.gets, Sl.view, view, mKNil, mKCons, mCallB, mCall0, mCallK, permL, dIx, atD, dAdd, dSub, dMod, dFdiv, dNeg, mNeg, dGt, dLt, dGe, dLe, dEq, dNe, RV.toSl, RV.toD, RV.out, RV.tru, mOrT, mSl, mPart, mNoP, dInt, dSl, fLen, fInt, fAbs, fList, fTuple, seqOf, sqOf, sFor, mRng1, mRng2, rng1, rng2, mEnum, enum1, mZip, zip2, lstOf, tgN, tgT, tgNs, mYes, mM0, mM1, mRevS, revS, mRevL, revL, dIn, dNotIn, mStore, lstAt, putAt, ixD, ixN, sSub, mApp, mListS, listS, mItS, strOf, mItA, lstOr, mItL, mItT, tupOf, mSSet, dSSet, mDef, sAug, dAddI, dSubI, SZ, M.alt, mGet2, isDic, dGetOr, dGet, mDNew, sDput, chkD, putD, sAsg, fLenD, mChain, dCount, dMul, e__law_cells, t1, t2, ne]
    rw [el]
    simp [sSeq, sNil, sIf, sRet, sRetN, sSet, sPut, sDrop, sPars, rNil, rCons, putRVs, mIf, M.bind, M.ret, M.opt, M.look, M.looks, M.frz, M.vl, M.cel, mCmp, mB, mBl, dBl, mTru, dTru, mNot, mAnd, mOr, mAndV, mOrV, mNotV, mNil, mCons, mTup, mLst, mOp, mOpV, mPk, mK, mC, mVar, Pk.get, Pk.gets, Sl.view, view, mKNil, mKCons, mCallB, mCall0, mCallK, permL, dIx, atD, dAdd, dSub, dMod, dFdiv, dNeg, mNeg, dGt, dLt, dGe, dLe, dEq, dNe, RV.toSl, RV.toD, RV.out, RV.tru, mOrT, mSl, mPart, mNoP, dInt, dSl, fLen, fInt, fAbs, fList, fTuple, seqOf, sqOf, sFor, mRng1, mRng2, rng1, rng2, mEnum, enum1, mZip, zip2, lstOf, tgN, tgT, tgNs, mYes, mM0, mM1, mRevS, revS, mRevL, revL, dIn, dNotIn, mStore, lstAt, putAt, ixD, ixN, sSub, mApp, mListS, listS, mItS, strOf, mItA, lstOr, mItL, mItT, tupOf, mSSet, dSSet, mDef, sAug, dAddI, dSubI, SZ, M.alt, mGet2, isDic, dGetOr, dGet, mDNew, sDput, chkD, putD, sAsg, fLenD, mChain, dCount, dMul]
end Thr
namespace Thr
open PySem PySem.Spec PyProof.Rows L2 RZ Sh

theorem Bx.mono {S : Store} {n t t' : Nat} (h : Bx S n t) (ht : t ≤ t') : Bx S n t' := by
  obtain ⟨a, b, c, e, h1, h2, h3, h4, h5⟩ := h
  exact ⟨a, b, c, e, h1, h2, h3, by omega, h5⟩
/-- one of several -/
theorem of_spec {S : Store} {n t : Nat} {xs : List D} (h : Bx S n t) (ht : t < 1000000000) (h0 : 0 < xs.length) (h1 : xs.length < 1000000) : ∃ x S', m__law_of [.cel n, .lst xs] S = .ok (.val x) S' ∧ x ∈ xs ∧ Bx S' n (t + 1) := by
  obtain ⟨r, S', e, r0, r1, hb⟩ := take_spec (k := (xs.length : Int)) h ht (by omega) (by omega)
  have hi : r.toNat < xs.length := by omega
  refine ⟨xs[r.toNat], S', ?_, List.getElem_mem hi, hb⟩
  unfold m__law_of
  have e2 : xs[r.toNat]? = some xs[r.toNat] := List.getElem?_eq_getElem hi
  simp [sSeq, sNil, sIf, sRet, sRetN, sSet, sPut, sDrop, sPars, rNil, rCons, putRVs, mIf, M.bind, M.ret, M.opt, M.look, M.looks, M.frz, M.vl, M.cel, mCmp, mB, mBl, dBl, mTru, dTru, mNot, mAnd, mOr, mAndV, mOrV, mNotV, mNil, mCons, mTup, mLst, mOp, mOpV, mPk, mK, mC, mVar, Pk.get, Pk.gets, Sl.view, view, mKNil, mKCons, mCallB, mCall0, mCallK, permL, dIx, atD, dAdd, dSub, dMod, dFdiv, dNeg, mNeg, dGt, dLt, dGe, dLe, dEq, dNe, RV.toSl, RV.toD, RV.out, RV.tru, mOrT, mSl, mPart, mNoP, dInt, dSl, fLen, fInt, fAbs, fList, fTuple, seqOf, sqOf, sFor, mRng1, mRng2, rng1, rng2, mEnum, enum1, mZip, zip2, lstOf, tgN, tgT, tgNs, mYes, mM0, mM1, mRevS, revS, mRevL, revL, dIn, dNotIn, mStore, lstAt, putAt, ixD, ixN, sSub, mApp, mListS, listS, mItS, strOf, mItA, lstOr, mItL, mItT, tupOf, mSSet, dSSet, mDef, sAug, dAddI, dSubI, SZ, M.alt, mGet2, isDic, dGetOr, dGet, mDNew, sDput, chkD, putD, sAsg, fLenD, mChain, dCount, e__law_of, e, r0, e2]
theorem rng_at {n i : Nat} {d : D} (h : (rng 0 n)[i]? = some d) : i < n ∧ d = .int (i : Nat) := by
  unfold rng at h
  have hi : i < n := by
    have := (List.getElem?_eq_some_iff.mp h).1
    simpa using this
  rw [List.getElem?_map, List.getElem?_range hi] at h
  cases h
  exact ⟨hi, by simp⟩
theorem rng_len {lo : Int} {n : Nat} : (rng lo n).length = n := by simp [rng]
theorem cut_perm {α : Type} (xs : List α) (i : Nat) (h : i < xs.length) : (xs.take i ++ xs.drop (i + 1) ++ [xs[i]]).Perm xs := by
  have e : xs = xs.take i ++ (xs[i] :: xs.drop (i + 1)) := by
    rw [← List.drop_eq_getElem_cons h, List.take_append_drop]
  have p : (xs.take i ++ xs.drop (i + 1) ++ [xs[i]]).Perm (xs.take i ++ (xs[i] :: xs.drop (i + 1))) := by
    rw [List.append_assoc]
    exact List.Perm.append_left _ (List.perm_append_singleton _ _)
  rw [← e] at p
  exact p
theorem mixed_step {S : Store} {n t : Nat} {x : D} {rest found : List D} {s2 s5 : Sl} (h : Bx S n t) (ht : t < 1000000000) (h0 : 0 < rest.length) (h1 : rest.length < 1000) (h2 : found.length < 1000) :
    ∃ rest' found' s5' S', p__law_mixed_1 [.val (.cel n), .val x, s2, .own rest, .own found, s5] S = .ok .nx [.val (.cel n), .val x, s2, .own rest', .own found', s5'] S' ∧ rest'.length + 1 = rest.length ∧ found'.length = found.length + 1 ∧ (rest' ++ found').Perm (rest ++ found) ∧ Bx S' n (t + 1) := by
  obtain ⟨r, S', e, r0, r1, hb⟩ := take_spec (k := (rest.length : Int)) h ht (by omega) (by omega)
  have hi : r.toNat < rest.length := by omega
  have e2 : rest[r.toNat]? = some rest[r.toNat] := List.getElem?_eq_getElem hi
  have c1 : dCut rest none (some r) = rest.take r.toNat := by
    have := dCut_to rest r.toNat
    rwa [Int.toNat_of_nonneg r0] at this
  have c2 : dCut rest (some (r + 1)) none = rest.drop (r.toNat + 1) := by
    have := dCut_from rest (r.toNat + 1)
    rwa [show ((r.toNat + 1 : Nat) : Int) = r + 1 by omega] at this
  have hz : (rest.take r.toNat).length + (rest.drop (r.toNat + 1)).length ≤ 16777216 := by simp; omega
  refine ⟨rest.take r.toNat ++ rest.drop (r.toNat + 1), found ++ [rest[r.toNat]], .val (.int r), S', ?_, by simp; omega, by simp, ?_, hb⟩
  · unfold p__law_mixed_1
    have h3 : found.length < 10000000 := by omega
    generalize rest.take r.toNat = A at c1 hz ⊢
    generalize rest.drop (r.toNat + 1) = B at c2 hz ⊢
    simp [sSeq, sNil, sIf, sRet, sRetN, sSet, sPut, sDrop, sPars, rNil, rCons, putRVs, mIf, M.bind, M.ret, M.opt, M.look, M.looks, M.frz, M.vl, M.cel, mCmp, mB, mBl, dBl, mTru, dTru, mNot, mAnd, mOr, mAndV, mOrV, mNotV, mNil, mCons, mTup, mLst, mOp, mOpV, mPk, mK, mC, mVar, Pk.get, Pk.gets, Sl.view, view, mKNil, mKCons, mCallB, mCall0, mCallK, permL, dIx, atD, dAdd, dSub, dMod, dFdiv, dNeg, mNeg, dGt, dLt, dGe, dLe, dEq, dNe, RV.toSl, RV.toD, RV.out, RV.tru, mOrT, mSl, mPart, mNoP, dInt, dSl, fLen, fInt, fAbs, fList, fTuple, seqOf, sqOf, sFor, mRng1, mRng2, rng1, rng2, mEnum, enum1, mZip, zip2, lstOf, tgN, tgT, tgNs, mYes, mM0, mM1, mRevS, revS, mRevL, revL, dIn, dNotIn, mStore, lstAt, putAt, ixD, ixN, sSub, mApp, mListS, listS, mItS, strOf, mItA, lstOr, mItL, mItT, tupOf, mSSet, dSSet, mDef, sAug, dAddI, dSubI, SZ, M.alt, mGet2, isDic, dGetOr, dGet, mDNew, sDput, chkD, putD, sAsg, fLenD, mChain, dCount, e, r0, e2, c1, c2, h3, hz]
  · have p := cut_perm rest r.toNat hi
    have : (rest.take r.toNat ++ rest.drop (r.toNat + 1) ++ (found ++ [rest[r.toNat]])).Perm (rest.take r.toNat ++ rest.drop (r.toNat + 1) ++ [rest[r.toNat]] ++ found) := by
      rw [List.append_assoc (_ ++ _) [_] found]
      exact List.Perm.append_left _ List.perm_append_comm
    exact this.trans (p.append_right found)
theorem mixed_spec {S : Store} {n t : Nat} {xs : List D} (h : Bx S n t) (ht : t + xs.length < 1000000000) (h1 : xs.length < 1000) : ∃ ys S', m__law_mixed [.cel n, .lst xs] S = .ok (.val (.lst ys)) S' ∧ ys.Perm xs ∧ Bx S' n (t + xs.length) := by
  have step : ∀ (i : Nat) d ρ S1, (rng 0 xs.length)[i]? = some d → (∃ (rest found : List D) (s2 s5 : Sl), ρ = [.val (.cel n), .val (.lst xs), s2, .own rest, .own found, s5] ∧ rest.length + (0 + i) = xs.length ∧ found.length = 0 + i ∧ (rest ++ found).Perm xs ∧ Bx S1 n (t + (0 + i))) →
      ∃ ρ1 S2 f ρ2 S3, tgN 2 d ρ S1 = .ok .nx ρ1 S2 ∧ p__law_mixed_1 ρ1 S2 = .ok f ρ2 S3 ∧ (f = .nx ∨ f = .ct) ∧ ∃ (rest found : List D) (s2 s5 : Sl), ρ2 = [.val (.cel n), .val (.lst xs), s2, .own rest, .own found, s5] ∧ rest.length + (0 + i + 1) = xs.length ∧ found.length = 0 + i + 1 ∧ (rest ++ found).Perm xs ∧ Bx S3 n (t + (0 + i + 1)) := by
    rintro i d ρ S1 hi ⟨rest, found, s2, s5, rfl, l1, l2, p, hb⟩
    obtain ⟨hin, rfl⟩ := rng_at hi
    obtain ⟨rest', found', s5', S', e, q1, q2, q3, q4⟩ := mixed_step (x := .lst xs) (s2 := .val (.int (i : Nat))) (s5 := s5) (rest := rest) (found := found) hb (by omega) (by omega) (by omega) (by omega)
    exact ⟨[.val (.cel n), .val (.lst xs), .val (.int (i : Nat)), .own rest, .own found, s5], S1, .nx, _, S', rfl, e, .inl rfl, rest', found', _, s5', rfl, by omega, by omega, q3.trans p, q4.mono (by omega)⟩
  obtain ⟨ρ', S', e, rest, found, s2, s5, rfl, l1, l2, p, hb⟩ := forL_inv (tg := tgN 2) (body := p__law_mixed_1) (fun i ρ S1 => ∃ (rest found : List D) (s2 s5 : Sl), ρ = [.val (.cel n), .val (.lst xs), s2, .own rest, .own found, s5] ∧ rest.length + i = xs.length ∧ found.length = i ∧ (rest ++ found).Perm xs ∧ Bx S1 n (t + i))
    (rng 0 xs.length) 0 [.val (.cel n), .val (.lst xs), .un, .own xs, .own [], .un] S ⟨xs, [], .un, .un, rfl, by omega, rfl, by simp, h⟩ step
  rw [rng_len] at l1 l2 hb
  have hr : rest = [] := by
    have : rest.length = 0 := by omega
    simpa using this
  subst hr
  refine ⟨found, S', ?_, by simpa using p, by simpa using hb⟩
  unfold m__law_mixed
  have ok : okR (xs.length : Int) = true := by
    unfold okR
    rw [Bool.and_eq_true, decide_eq_true_eq, decide_eq_true_eq]; omega
  simp [sSeq, sNil, sIf, sRet, sRetN, sSet, sPut, sDrop, sPars, rNil, rCons, putRVs, mIf, M.bind, M.ret, M.opt, M.look, M.looks, M.frz, M.vl, M.cel, mCmp, mB, mBl, dBl, mTru, dTru, mNot, mAnd, mOr, mAndV, mOrV, mNotV, mNil, mCons, mTup, mLst, mOp, mOpV, mPk, mK, mC, mVar, Pk.get, Pk.gets, Sl.view, view, mKNil, mKCons, mCallB, mCall0, mCallK, permL, dIx, atD, dAdd, dSub, dMod, dFdiv, dNeg, mNeg, dGt, dLt, dGe, dLe, dEq, dNe, RV.toSl, RV.toD, RV.out, RV.tru, mOrT, mSl, mPart, mNoP, dInt, dSl, fLen, fInt, fAbs, fList, fTuple, seqOf, sqOf, sFor, mRng1, mRng2, rng1, rng2, mEnum, enum1, mZip, zip2, lstOf, tgN, tgT, tgNs, mYes, mM0, mM1, mRevS, revS, mRevL, revL, dIn, dNotIn, mStore, lstAt, putAt, ixD, ixN, sSub, mApp, mListS, listS, mItS, strOf, mItA, lstOr, mItL, mItT, tupOf, mSSet, dSSet, mDef, sAug, dAddI, dSubI, SZ, M.alt, mGet2, isDic, dGetOr, dGet, mDNew, sDput, chkD, putD, sAsg, fLenD, mChain, dCount, e__law_mixed, ok, e]
end Thr
namespace Thr
open PySem PySem.Spec PyProof.Rows L2 RZ Sh

/-! ### letters -/
def lets : List Nat := [97, 98, 99, 100, 101, 102, 103, 104]
def isL (c : Nat) : Bool := (decide (97 ≤ c) && decide (c ≤ 104)) || (decide (65 ≤ c) && decide (c ≤ 72))
theorem isL_iff {c : Nat} : isL c = true ↔ (97 ≤ c ∧ c ≤ 104) ∨ (65 ≤ c ∧ c ≤ 72) := by
  unfold isL
  rw [Bool.or_eq_true, Bool.and_eq_true, Bool.and_eq_true]
  simp only [decide_eq_true_eq]
def RowL (s : List Nat) : Prop := ∀ c, c ∈ s → isL c = true
theorem isL_small {c : Nat} (h : isL c = true) : c < 128 := by rcases isL_iff.mp h with z | z <;> omega
theorem rowL_all {s : List Nat} (h : RowL s) : s.all (fun c => decide (c < 128)) = true := by
  rw [List.all_eq_true]
  exact fun c hc => decide_eq_true (isL_small (h c hc))
theorem lets_mem {c : Nat} : c ∈ lets ↔ 97 ≤ c ∧ c ≤ 104 := by unfold lets; simp; omega
theorem isL_up {c : Nat} (h : isL c = true) : isL (up1 c) = true := by
  rw [isL_iff] at h ⊢
  unfold up1
  split <;> omega
theorem isL_lo {c : Nat} (h : isL c = true) : 97 ≤ lo1 c ∧ lo1 c ≤ 104 := by
  rw [isL_iff] at h
  unfold lo1
  split <;> omega
theorem lo_lo {c : Nat} (h : isL c = true) : lo1 c = if c ∈ lets then c else c + 32 := by
  rw [isL_iff] at h
  unfold lo1
  by_cases z : c ∈ lets
  · rw [if_pos z]; rw [lets_mem] at z; rw [if_neg (by omega)]
  · rw [if_neg z]; rw [lets_mem] at z; rw [if_pos (by omega)]
abbrev letD : List D := lets.map fun c => .str [c]
theorem row_step {S : Store} {n t : Nat} {a b : D} {ys : List D} {s : List Nat} {s3 s4 s6 : Sl} (h : Bx S n t) (ht : t + 2 < 1000000000) (h4 : s4 = .own ys ∨ s4 = .val (.lst ys)) (hy : ∀ y, y ∈ ys → ∃ c, y = .str [c] ∧ isL c = true) (h0 : 0 < ys.length) (h1 : ys.length < 1000) (hs : RowL s) (hl : s.length < 100000) :
    ∃ c s6' S', p__law_row_1 [.val (.cel n), .val a, .val b, s3, s4, .val (.str s), s6] S = .ok .nx [.val (.cel n), .val a, .val b, s3, .val (.lst ys), .val (.str (s ++ [c])), s6'] S' ∧ isL c = true ∧ Bx S' n (t + 2) := by
  obtain ⟨y, S1, e1, hm, hb1⟩ := of_spec h (by omega) h0 (by omega)
  obtain ⟨c, rfl, hc⟩ := hy y hm
  obtain ⟨r, S2, e2, r0, r1, hb2⟩ := take_spec (k := 3) hb1 (by omega) (by omega) (by omega)
  have hz : s.length + 1 ≤ 16777216 := by omega
  have hc2 : c < 128 := isL_small hc
  by_cases hr : 0 < r
  · refine ⟨c, .val (.str [c]), S2, ?_, hc, hb2⟩
    unfold p__law_row_1
    rcases h4 with rfl | rfl <;> simp [sSeq, sNil, sIf, sRet, sRetN, sSet, sPut, sDrop, sPars, rNil, rCons, putRVs, mIf, M.bind, M.ret, M.opt, M.look, M.looks, M.frz, M.vl, M.cel, mCmp, mB, mBl, dBl, mTru, dTru, mNot, mAnd, mOr, mAndV, mOrV, mNotV, mNil, mCons, mTup, mLst, mOp, mOpV, mPk, mK, mC, mVar, Pk.get, Pk.gets, Sl.view, view, mKNil, mKCons, mCallB, mCall0, mCallK, permL, dIx, atD, dAdd, dSub, dMod, dFdiv, dNeg, mNeg, dGt, dLt, dGe, dLe, dEq, dNe, RV.toSl, RV.toD, RV.out, RV.tru, mOrT, mSl, mPart, mNoP, dInt, dSl, fLen, fInt, fAbs, fList, fTuple, seqOf, sqOf, sFor, mRng1, mRng2, rng1, rng2, mEnum, enum1, mZip, zip2, lstOf, tgN, tgT, tgNs, mYes, mM0, mM1, mRevS, revS, mRevL, revL, dIn, dNotIn, mStore, lstAt, putAt, ixD, ixN, sSub, mApp, mListS, listS, mItS, strOf, mItA, lstOr, mItL, mItT, tupOf, mSSet, dSSet, mDef, sAug, dAddI, dSubI, SZ, M.alt, mGet2, isDic, dGetOr, dGet, mDNew, sDput, chkD, putD, sAsg, fLenD, mChain, dCount, dMul, e1, e2, hr, hz]
  · refine ⟨up1 c, .val (.str [c]), S2, ?_, isL_up hc, hb2⟩
    unfold p__law_row_1
    rcases h4 with rfl | rfl <;> simp [sSeq, sNil, sIf, sRet, sRetN, sSet, sPut, sDrop, sPars, rNil, rCons, putRVs, mIf, M.bind, M.ret, M.opt, M.look, M.looks, M.frz, M.vl, M.cel, mCmp, mB, mBl, dBl, mTru, dTru, mNot, mAnd, mOr, mAndV, mOrV, mNotV, mNil, mCons, mTup, mLst, mOp, mOpV, mPk, mK, mC, mVar, Pk.get, Pk.gets, Sl.view, view, mKNil, mKCons, mCallB, mCall0, mCallK, permL, dIx, atD, dAdd, dSub, dMod, dFdiv, dNeg, mNeg, dGt, dLt, dGe, dLe, dEq, dNe, RV.toSl, RV.toD, RV.out, RV.tru, mOrT, mSl, mPart, mNoP, dInt, dSl, fLen, fInt, fAbs, fList, fTuple, seqOf, sqOf, sFor, mRng1, mRng2, rng1, rng2, mEnum, enum1, mZip, zip2, lstOf, tgN, tgT, tgNs, mYes, mM0, mM1, mRevS, revS, mRevL, revL, dIn, dNotIn, mStore, lstAt, putAt, ixD, ixN, sSub, mApp, mListS, listS, mItS, strOf, mItA, lstOr, mItL, mItT, tupOf, mSSet, dSSet, mDef, sAug, dAddI, dSubI, SZ, M.alt, mGet2, isDic, dGetOr, dGet, mDNew, sDput, chkD, putD, sAsg, fLenD, mChain, dCount, dMul, e1, e2, hr, hz, uppD, hc2]
theorem row_spec {S : Store} {n t : Nat} {many long : Int} (h : Bx S n t) (ht : t + 1000 + 2 * long.toNat < 1000000000) (h1 : 1 ≤ many) (h2 : many ≤ 8) (h3 : 0 ≤ long) (h4 : long < 10000) :
    ∃ s S', m__law_row [.cel n, .int many, .int long] S = .ok (.val (.str s)) S' ∧ RowL s ∧ (s.length : Int) ≤ long ∧ Bx S' n (t + 1000 + 2 * long.toNat) := by
  obtain ⟨ys, S1, e1, p, hb1⟩ := mixed_spec (xs := letD) h (by simp [lets]; omega) (by simp [lets])
  have hl8 : ys.length = 8 := by rw [p.length_eq]; rfl
  have hb1' : Bx S1 n (t + 8) := hb1
  obtain ⟨r, S2, e2, r0, r1, hb2⟩ := take_spec (k := long + 1) hb1' (by omega) (by omega) (by omega)
  have c1 : dCut ys none (some many) = ys.take many.toNat := by
    have := dCut_to ys many.toNat
    rwa [Int.toNat_of_nonneg (by omega)] at this
  have hmem : ∀ y, y ∈ ys.take many.toNat → ∃ c, y = .str [c] ∧ isL c = true := fun y hy => by
    have := p.mem_iff.mp (List.mem_of_mem_take hy)
    obtain ⟨c, hc, rfl⟩ := List.mem_map.mp this
    refine ⟨c, rfl, isL_iff.mpr (.inl (lets_mem.mp hc))⟩
  have hlen0 : 0 < (ys.take many.toNat).length := by rw [List.length_take]; omega
  have hlen1 : (ys.take many.toNat).length < 1000 := by rw [List.length_take]; omega
  generalize ys.take many.toNat = zs at *
  have step : ∀ (i : Nat) d ρ S1, (rng 0 r.toNat)[i]? = some d → (∃ (s : List Nat) (s3 s4 s6 : Sl), ρ = [.val (.cel n), .val (.int many), .val (.int long), s3, s4, .val (.str s), s6] ∧ (s4 = .own zs ∨ s4 = .val (.lst zs)) ∧ RowL s ∧ s.length = 0 + i ∧ Bx S1 n (t + 9 + 2 * (0 + i))) →
      ∃ ρ1 S2 f ρ2 S3, tgN 3 d ρ S1 = .ok .nx ρ1 S2 ∧ p__law_row_1 ρ1 S2 = .ok f ρ2 S3 ∧ (f = .nx ∨ f = .ct) ∧ ∃ (s : List Nat) (s3 s4 s6 : Sl), ρ2 = [.val (.cel n), .val (.int many), .val (.int long), s3, s4, .val (.str s), s6] ∧ (s4 = .own zs ∨ s4 = .val (.lst zs)) ∧ RowL s ∧ s.length = 0 + i + 1 ∧ Bx S3 n (t + 9 + 2 * (0 + i + 1)) := by
    rintro i d ρ S1 hi ⟨s, s3, s4, s6, rfl, q4, q1, q2, hb⟩
    obtain ⟨hin, rfl⟩ := rng_at hi
    obtain ⟨c, s6', S', e, q5, q6⟩ := row_step (a := .int many) (b := .int long) (s3 := .val (.int (i : Nat))) (s6 := s6) (s := s) hb (by omega) q4 hmem hlen0 hlen1 q1 (by omega)
    refine ⟨[.val (.cel n), .val (.int many), .val (.int long), .val (.int (i : Nat)), s4, .val (.str s), s6], S1, .nx, _, S', rfl, e, .inl rfl, s ++ [c], _, _, s6', rfl, .inr rfl, fun x hx => ?_, by simp; omega, q6.mono (by omega)⟩
    rcases List.mem_append.mp hx with z | z
    · exact q1 x z
    · rw [List.mem_singleton] at z; rw [z]; exact q5
  obtain ⟨ρ', S', e, s, s3, s4, s6, rfl, q4, q1, q2, hb⟩ := forL_inv (tg := tgN 3) (body := p__law_row_1) (fun i ρ S1 => ∃ (s : List Nat) (s3 s4 s6 : Sl), ρ = [.val (.cel n), .val (.int many), .val (.int long), s3, s4, .val (.str s), s6] ∧ (s4 = .own zs ∨ s4 = .val (.lst zs)) ∧ RowL s ∧ s.length = i ∧ Bx S1 n (t + 9 + 2 * i))
    (rng 0 r.toNat) 0 [.val (.cel n), .val (.int many), .val (.int long), .un, .own zs, .val (.str []), .un] S2 ⟨[], .un, _, .un, rfl, .inl rfl, fun c hc => by simp at hc, rfl, hb2.mono (by omega)⟩ step
  rw [rng_len] at q2 hb
  refine ⟨s, S', ?_, q1, by omega, hb.mono (by omega)⟩
  unfold m__law_row
  have ok : okR r = true := by
    unfold okR
    rw [Bool.and_eq_true, decide_eq_true_eq, decide_eq_true_eq]; omega
  have e1' : m__law_mixed [.cel n, .lst [.str [97], .str [98], .str [99], .str [100], .str [101], .str [102], .str [103], .str [104]]] S = .ok (.val (.lst ys)) S1 := e1
  simp [sSeq, sNil, sIf, sRet, sRetN, sSet, sPut, sDrop, sPars, rNil, rCons, putRVs, mIf, M.bind, M.ret, M.opt, M.look, M.looks, M.frz, M.vl, M.cel, mCmp, mB, mBl, dBl, mTru, dTru, mNot, mAnd, mOr, mAndV, mOrV, mNotV, mNil, mCons, mTup, mLst, mOp, mOpV, mPk, mK, mC, mVar, Pk.get, Pk.gets, Sl.view, view, mKNil, mKCons, mCallB, mCall0, mCallK, permL, dIx, atD, dAdd, dSub, dMod, dFdiv, dNeg, mNeg, dGt, dLt, dGe, dLe, dEq, dNe, RV.toSl, RV.toD, RV.out, RV.tru, mOrT, mSl, mPart, mNoP, dInt, dSl, fLen, fInt, fAbs, fList, fTuple, seqOf, sqOf, sFor, mRng1, mRng2, rng1, rng2, mEnum, enum1, mZip, zip2, lstOf, tgN, tgT, tgNs, mYes, mM0, mM1, mRevS, revS, mRevL, revL, dIn, dNotIn, mStore, lstAt, putAt, ixD, ixN, sSub, mApp, mListS, listS, mItS, strOf, mItA, lstOr, mItL, mItT, tupOf, mSSet, dSSet, mDef, sAug, dAddI, dSubI, SZ, M.alt, mGet2, isDic, dGetOr, dGet, mDNew, sDput, chkD, putD, sAsg, fLenD, mChain, dCount, dMul, e__law_row, ok, e1', e2, c1, e]
end Thr
namespace Thr
open PySem PySem.Spec PyProof.Rows L2 RZ Sh

def signs1 (s : List Nat) : List D := s.map fun c => .str [c]
theorem strsD_map {α : Type} (g : α → List Nat) : ∀ l : List α, strsD (l.map fun x => .str (g x)) = some (l.map g)
  | [] => rfl
  | x :: l => by
    show (strsD (l.map fun x => .str (g x))).map _ = _
    rw [strsD_map g l]
    rfl
theorem joinL_nil : ∀ ss : List (List Nat), joinL [] ss = ss.flatten
  | [] => rfl
  | [x] => by simp [joinL]
  | x :: y :: r => by
    show x ++ [] ++ joinL [] (y :: r) = _
    rw [joinL_nil (y :: r), List.append_nil]
    rfl
theorem lc_txt {te : M D} {mi : M (List D)} {s : List Nat} {a sl : Sl} {S : Store} {g : Nat → List Nat} (hmi : mi [a, sl] S = .ok (signs1 s) [a, sl] S) (ht : ∀ c, c ∈ s → te [a, .val (.str [c])] S = .ok (.str (g c)) [a, .val (.str [c])] S) (hl : s.length < 1000000) :
    ∃ ρ', mLC [1] mi (tgN 1) mYes te [a, sl] S = .ok (.own (s.map fun c => .str (g c))) ρ' S := by
  obtain ⟨ρ', e, _⟩ := lcL_map (vs := [1]) (mt := tgN 1) (tt := mYes) (te := te) (fun d => match d with | .str [c] => .str (g c) | d => d) (signs1 s) [a, sl] S (by
    intro d hd ρ0 h0
    obtain ⟨c, hc, rfl⟩ := List.mem_map.mp hd
    rw [h0]
    refine ⟨[a, .val (.str [c])], [a, .val (.str [c])], [a, .val (.str [c])], rfl, rfl, ht c hc, rfl⟩)
  refine ⟨restE [a, sl] (wipeE ρ' [1]) [1], ?_⟩
  unfold mLC M.bind
  rw [hmi]
  dsimp only
  rw [if_pos (by unfold signs1; rw [List.length_map]; omega), e]
  dsimp only
  have : (signs1 s).map (fun d => match d with | .str [c] => D.str (g c) | d => d) = s.map fun c => .str (g c) := by
    unfold signs1
    rw [List.map_map]
    rfl
  rw [this]
theorem sum_le {g : Nat → List Nat} {k : Nat} : ∀ {s : List Nat}, (∀ c, c ∈ s → (g c).length ≤ k) → ((s.map g).map List.length).sum ≤ k * s.length
  | [], _ => by simp
  | c :: s, h => by
    have h1 := h c (List.mem_cons_self ..)
    have h2 := sum_le (k := k) (s := s) fun c hc => h c (List.mem_cons_of_mem _ hc)
    simp only [List.map_cons, List.sum_cons, List.length_cons]
    rw [Nat.mul_succ]
    omega
/-- ''.join([.. for c in s]) -/
theorem join_txt {te : M D} {mi : M (List D)} {s : List Nat} {a sl : Sl} {S : Store} {g : Nat → List Nat} (hmi : mi [a, sl] S = .ok (signs1 s) [a, sl] S) (ht : ∀ c, c ∈ s → te [a, .val (.str [c])] S = .ok (.str (g c)) [a, .val (.str [c])] S) (hg : ∀ c, c ∈ s → (g c).length ≤ 2) (hl : s.length < 1000000) :
    ∃ ρ', mM1 dJoin (mK (mC (.str []))) (mK (M.frz (mLC [1] mi (tgN 1) mYes te))) [a, sl] S = .ok (.str (s.map g).flatten) ρ' S := by
  obtain ⟨ρ', e⟩ := lc_txt hmi ht hl
  refine ⟨ρ', ?_⟩
  have h1 := sum_le hg
  have h2 : dJoin (.str []) (.lst (s.map fun c => .str (g c))) = some (.str (s.map g).flatten) := by
    unfold dJoin
    dsimp only [sqOf]
    rw [strsD_map g s]
    dsimp only
    rw [if_pos (by simp only [List.length_nil, Nat.mul_zero]; omega), joinL_nil]
  unfold mM1 mK mC M.bind
  simp only [M.ret, M.look, Pk.get, view, M.bind, M.frz]
  rw [e]
  simp only [RV.toD, Pk.get, view, M.ret, h2, M.opt]
def plainC (c : Nat) : List Nat := if c ∈ lets then [c] else [c + 32, c + 32]
def plainL (s : List Nat) : List Nat := (s.map plainC).flatten
def flipC (c : Nat) : List Nat := if c ∈ lets then [c - 32] else [c + 32]
def backL (s : List Nat) : List Nat := (s.reverse.map flipC).flatten
theorem lo_big {c : Nat} (h : isL c = true) (z : ¬ c ∈ lets) : lo1 c = c + 32 := by rw [lo_lo h, if_neg z]
theorem up_small {c : Nat} (z : c ∈ lets) : up1 c = c - 32 := by
  rw [lets_mem] at z
  unfold up1
  rw [if_pos (by omega)]
theorem plain_te {c : Nat} {a : Sl} {S : Store} (h : isL c = true) : p_plain_of_1 [a, .val (.str [c])] S = .ok (.str (plainC c)) [a, .val (.str [c])] S := by
  have h2 := isL_small h
  unfold p_plain_of_1 plainC
  by_cases z : c ∈ lets
  · have z' : c ∈ [97, 98, 99, 100, 101, 102, 103, 104] := z
    rw [if_pos z]
    simp only [mIf, mCmp, M.bind, mPk, mK, mC, M.ret, M.look, Pk.get, Sl.view, view, dIn, M.opt, mVar, z', decide_true, if_true, List.getElem?_cons_zero, List.getElem?_cons_succ]
  · have z' : ¬ c ∈ [97, 98, 99, 100, 101, 102, 103, 104] := z
    rw [if_neg z]
    have e := lo_big h z
    simp only [mIf, mCmp, M.bind, mPk, mK, mC, M.ret, M.look, Pk.get, Sl.view, view, dIn, M.opt, mVar, z', decide_false, List.getElem?_cons_zero, List.getElem?_cons_succ]
    simp [sSeq, sNil, sIf, sRet, sRetN, sSet, sPut, sDrop, sPars, rNil, rCons, putRVs, mIf, M.bind, M.ret, M.opt, M.look, M.looks, M.frz, M.vl, M.cel, mCmp, mB, mBl, dBl, mTru, dTru, mNot, mAnd, mOr, mAndV, mOrV, mNotV, mNil, mCons, mTup, mLst, mOp, mOpV, mPk, mK, mC, mVar, Pk.get, Pk.gets, Sl.view, view, mKNil, mKCons, mCallB, mCall0, mCallK, permL, dIx, atD, dAdd, dSub, dMod, dFdiv, dNeg, mNeg, dGt, dLt, dGe, dLe, dEq, dNe, RV.toSl, RV.toD, RV.out, RV.tru, mOrT, mSl, mPart, mNoP, dInt, dSl, fLen, fInt, fAbs, fList, fTuple, seqOf, sqOf, sFor, mRng1, mRng2, rng1, rng2, mEnum, enum1, mZip, zip2, lstOf, tgN, tgT, tgNs, mYes, mM0, mM1, mRevS, revS, mRevL, revL, dIn, dNotIn, mStore, lstAt, putAt, ixD, ixN, sSub, mApp, mListS, listS, mItS, strOf, mItA, lstOr, mItL, mItT, tupOf, mSSet, dSSet, mDef, sAug, dAddI, dSubI, SZ, M.alt, mGet2, isDic, dGetOr, dGet, mDNew, sDput, chkD, putD, sAsg, fLenD, mChain, dCount, dMul, lowD, h2, e, dMul, List.replicate]
theorem plain2_te {c : Nat} {a : Sl} {S : Store} (h : isL c = true) : p__law_plain_1 [a, .val (.str [c])] S = .ok (.str (plainC c)) [a, .val (.str [c])] S := by
  have h2 := isL_small h
  unfold p__law_plain_1 plainC
  by_cases z : c ∈ lets
  · have z' : c ∈ [97, 98, 99, 100, 101, 102, 103, 104] := z
    rw [if_pos z]
    simp only [mIf, mCmp, M.bind, mPk, mK, mC, M.ret, M.look, Pk.get, Sl.view, view, dIn, M.opt, mVar, z', decide_true, if_true, List.getElem?_cons_zero, List.getElem?_cons_succ]
  · have z' : ¬ c ∈ [97, 98, 99, 100, 101, 102, 103, 104] := z
    rw [if_neg z]
    have e := lo_big h z
    simp only [mIf, mCmp, M.bind, mPk, mK, mC, M.ret, M.look, Pk.get, Sl.view, view, dIn, M.opt, mVar, z', decide_false, List.getElem?_cons_zero, List.getElem?_cons_succ]
    simp [sSeq, sNil, sIf, sRet, sRetN, sSet, sPut, sDrop, sPars, rNil, rCons, putRVs, mIf, M.bind, M.ret, M.opt, M.look, M.looks, M.frz, M.vl, M.cel, mCmp, mB, mBl, dBl, mTru, dTru, mNot, mAnd, mOr, mAndV, mOrV, mNotV, mNil, mCons, mTup, mLst, mOp, mOpV, mPk, mK, mC, mVar, Pk.get, Pk.gets, Sl.view, view, mKNil, mKCons, mCallB, mCall0, mCallK, permL, dIx, atD, dAdd, dSub, dMod, dFdiv, dNeg, mNeg, dGt, dLt, dGe, dLe, dEq, dNe, RV.toSl, RV.toD, RV.out, RV.tru, mOrT, mSl, mPart, mNoP, dInt, dSl, fLen, fInt, fAbs, fList, fTuple, seqOf, sqOf, sFor, mRng1, mRng2, rng1, rng2, mEnum, enum1, mZip, zip2, lstOf, tgN, tgT, tgNs, mYes, mM0, mM1, mRevS, revS, mRevL, revL, dIn, dNotIn, mStore, lstAt, putAt, ixD, ixN, sSub, mApp, mListS, listS, mItS, strOf, mItA, lstOr, mItL, mItT, tupOf, mSSet, dSSet, mDef, sAug, dAddI, dSubI, SZ, M.alt, mGet2, isDic, dGetOr, dGet, mDNew, sDput, chkD, putD, sAsg, fLenD, mChain, dCount, dMul, lowD, h2, e]
theorem undone_te {c : Nat} {a : Sl} {S : Store} (h : isL c = true) : p_undone_1 [a, .val (.str [c])] S = .ok (.str (flipC c)) [a, .val (.str [c])] S := by
  have h2 := isL_small h
  unfold p_undone_1 flipC
  by_cases z : c ∈ lets
  · have z' : c ∈ [97, 98, 99, 100, 101, 102, 103, 104] := z
    rw [if_pos z]
    have e := up_small z
    simp only [mIf, mCmp, M.bind, mPk, mK, mC, M.ret, M.look, Pk.get, Sl.view, view, dIn, M.opt, mVar, z', decide_true, if_true, List.getElem?_cons_zero, List.getElem?_cons_succ]
    simp [sSeq, sNil, sIf, sRet, sRetN, sSet, sPut, sDrop, sPars, rNil, rCons, putRVs, mIf, M.bind, M.ret, M.opt, M.look, M.looks, M.frz, M.vl, M.cel, mCmp, mB, mBl, dBl, mTru, dTru, mNot, mAnd, mOr, mAndV, mOrV, mNotV, mNil, mCons, mTup, mLst, mOp, mOpV, mPk, mK, mC, mVar, Pk.get, Pk.gets, Sl.view, view, mKNil, mKCons, mCallB, mCall0, mCallK, permL, dIx, atD, dAdd, dSub, dMod, dFdiv, dNeg, mNeg, dGt, dLt, dGe, dLe, dEq, dNe, RV.toSl, RV.toD, RV.out, RV.tru, mOrT, mSl, mPart, mNoP, dInt, dSl, fLen, fInt, fAbs, fList, fTuple, seqOf, sqOf, sFor, mRng1, mRng2, rng1, rng2, mEnum, enum1, mZip, zip2, lstOf, tgN, tgT, tgNs, mYes, mM0, mM1, mRevS, revS, mRevL, revL, dIn, dNotIn, mStore, lstAt, putAt, ixD, ixN, sSub, mApp, mListS, listS, mItS, strOf, mItA, lstOr, mItL, mItT, tupOf, mSSet, dSSet, mDef, sAug, dAddI, dSubI, SZ, M.alt, mGet2, isDic, dGetOr, dGet, mDNew, sDput, chkD, putD, sAsg, fLenD, mChain, dCount, dMul, uppD, h2, e]
  · have z' : ¬ c ∈ [97, 98, 99, 100, 101, 102, 103, 104] := z
    rw [if_neg z]
    have e := lo_big h z
    simp only [mIf, mCmp, M.bind, mPk, mK, mC, M.ret, M.look, Pk.get, Sl.view, view, dIn, M.opt, mVar, z', decide_false, List.getElem?_cons_zero, List.getElem?_cons_succ]
    simp [sSeq, sNil, sIf, sRet, sRetN, sSet, sPut, sDrop, sPars, rNil, rCons, putRVs, mIf, M.bind, M.ret, M.opt, M.look, M.looks, M.frz, M.vl, M.cel, mCmp, mB, mBl, dBl, mTru, dTru, mNot, mAnd, mOr, mAndV, mOrV, mNotV, mNil, mCons, mTup, mLst, mOp, mOpV, mPk, mK, mC, mVar, Pk.get, Pk.gets, Sl.view, view, mKNil, mKCons, mCallB, mCall0, mCallK, permL, dIx, atD, dAdd, dSub, dMod, dFdiv, dNeg, mNeg, dGt, dLt, dGe, dLe, dEq, dNe, RV.toSl, RV.toD, RV.out, RV.tru, mOrT, mSl, mPart, mNoP, dInt, dSl, fLen, fInt, fAbs, fList, fTuple, seqOf, sqOf, sFor, mRng1, mRng2, rng1, rng2, mEnum, enum1, mZip, zip2, lstOf, tgN, tgT, tgNs, mYes, mM0, mM1, mRevS, revS, mRevL, revL, dIn, dNotIn, mStore, lstAt, putAt, ixD, ixN, sSub, mApp, mListS, listS, mItS, strOf, mItA, lstOr, mItL, mItT, tupOf, mSSet, dSSet, mDef, sAug, dAddI, dSubI, SZ, M.alt, mGet2, isDic, dGetOr, dGet, mDNew, sDput, chkD, putD, sAsg, fLenD, mChain, dCount, dMul, lowD, h2, e]
theorem back_te {c : Nat} {a : Sl} {S : Store} (h : isL c = true) : p__law_back_1 [a, .val (.str [c])] S = .ok (.str (flipC c)) [a, .val (.str [c])] S := undone_te h
theorem plainC_len (c : Nat) : (plainC c).length ≤ 2 := by unfold plainC; split <;> simp
theorem flipC_len (c : Nat) : (flipC c).length ≤ 2 := by unfold flipC; split <;> simp
theorem plain_spec {s : List Nat} {S : Store} (h : RowL s) (hl : s.length < 1000000) : m_plain_of [.str s] S = .ok (.val (.str (plainL s))) S := by
  obtain ⟨ρ', e⟩ := join_txt (te := p_plain_of_1) (mi := mItA (mVar 0)) (a := .val (.str s)) (sl := .un) (S := S) (s := s) (g := plainC) rfl (fun c hc => plain_te (h c hc)) (fun c _ => plainC_len c) hl
  unfold m_plain_of mDef e_plain_of
  simp only [List.length_cons, List.length_nil, if_true, List.map_cons, List.map_nil, List.cons_append, List.nil_append, List.replicate, sRet, M.vl, M.bind]
  rw [e]
  rfl
theorem plain2_spec {s : List Nat} {S : Store} (h : RowL s) (hl : s.length < 1000000) : m__law_plain [.str s] S = .ok (.val (.str (plainL s))) S := by
  obtain ⟨ρ', e⟩ := join_txt (te := p__law_plain_1) (mi := mItA (mVar 0)) (a := .val (.str s)) (sl := .un) (S := S) (s := s) (g := plainC) rfl (fun c hc => plain2_te (h c hc)) (fun c _ => plainC_len c) hl
  unfold m__law_plain mDef e__law_plain
  simp only [List.length_cons, List.length_nil, if_true, List.map_cons, List.map_nil, List.cons_append, List.nil_append, List.replicate, sRet, M.vl, M.bind]
  rw [e]
  rfl
theorem rev_it {s : List Nat} {sl : Sl} {S : Store} (hl : s.length < 1000000) : mItA (mRevS (mPk 0)) [.val (.str s), sl] S = .ok (signs1 s.reverse) [.val (.str s), sl] S := by
  have : s.length ≤ 16777216 := by omega
  simp [sSeq, sNil, sIf, sRet, sRetN, sSet, sPut, sDrop, sPars, rNil, rCons, putRVs, mIf, M.bind, M.ret, M.opt, M.look, M.looks, M.frz, M.vl, M.cel, mCmp, mB, mBl, dBl, mTru, dTru, mNot, mAnd, mOr, mAndV, mOrV, mNotV, mNil, mCons, mTup, mLst, mOp, mOpV, mPk, mK, mC, mVar, Pk.get, Pk.gets, Sl.view, view, mKNil, mKCons, mCallB, mCall0, mCallK, permL, dIx, atD, dAdd, dSub, dMod, dFdiv, dNeg, mNeg, dGt, dLt, dGe, dLe, dEq, dNe, RV.toSl, RV.toD, RV.out, RV.tru, mOrT, mSl, mPart, mNoP, dInt, dSl, fLen, fInt, fAbs, fList, fTuple, seqOf, sqOf, sFor, mRng1, mRng2, rng1, rng2, mEnum, enum1, mZip, zip2, lstOf, tgN, tgT, tgNs, mYes, mM0, mM1, mRevS, revS, mRevL, revL, dIn, dNotIn, mStore, lstAt, putAt, ixD, ixN, sSub, mApp, mListS, listS, mItS, strOf, mItA, lstOr, mItL, mItT, tupOf, mSSet, dSSet, mDef, sAug, dAddI, dSubI, SZ, M.alt, mGet2, isDic, dGetOr, dGet, mDNew, sDput, chkD, putD, sAsg, fLenD, mChain, dCount, dMul, this, signs1]
theorem undone_spec {s : List Nat} {S : Store} (h : RowL s) (hl : s.length < 1000000) : m_undone [.str s] S = .ok (.val (.str (backL s))) S := by
  obtain ⟨ρ', e⟩ := join_txt (te := p_undone_1) (mi := mItA (mRevS (mPk 0))) (a := .val (.str s)) (sl := .un) (S := S) (s := s.reverse) (g := flipC) (rev_it hl) (fun c hc => undone_te (h c (List.mem_reverse.mp hc))) (fun c _ => flipC_len c) (by simpa using hl)
  unfold m_undone mDef e_undone
  simp only [List.length_cons, List.length_nil, if_true, List.map_cons, List.map_nil, List.cons_append, List.nil_append, List.replicate, sRet, M.vl, M.bind]
  rw [e]
  rfl
theorem back_spec {s : List Nat} {S : Store} (h : RowL s) (hl : s.length < 1000000) : m__law_back [.str s] S = .ok (.val (.str (backL s))) S := by
  obtain ⟨ρ', e⟩ := join_txt (te := p__law_back_1) (mi := mItA (mRevS (mPk 0))) (a := .val (.str s)) (sl := .un) (S := S) (s := s.reverse) (g := flipC) (rev_it hl) (fun c hc => back_te (h c (List.mem_reverse.mp hc))) (fun c _ => flipC_len c) (by simpa using hl)
  unfold m__law_back mDef e__law_back
  simp only [List.length_cons, List.length_nil, if_true, List.map_cons, List.map_nil, List.cons_append, List.nil_append, List.replicate, sRet, M.vl, M.bind]
  rw [e]
  rfl
def lettersL (s : List Nat) : List Nat := srtD (s.map lo1)
theorem insD_len (c : Nat) : ∀ l : List Nat, (insD c l).length ≤ l.length + 1
  | [] => by simp [insD]
  | d :: r => by
    unfold insD
    split
    · simp
    · split
      · simp
      · have := insD_len c r; simp; omega
theorem srtD_len : ∀ l : List Nat, (srtD l).length ≤ l.length
  | [] => by simp [srtD]
  | c :: r => by
    have := insD_len c (srtD r)
    have := srtD_len r
    unfold srtD
    simp; omega
theorem flat_one : ∀ l : List Nat, (l.map fun c => [c]).flatten = l
  | [] => rfl
  | c :: r => by simp [flat_one r]
theorem letters_spec {s : List Nat} {S : Store} (h : RowL s) (hl : s.length < 4000) : m_letters_of [.str s] S = .ok (.val (.str (lettersL s))) S := by
  have h1 := rowL_all h
  have h3 : ((s.map lo1).all fun c => decide (c < 128)) = true := by
    rw [List.all_eq_true]
    intro c hc
    obtain ⟨d, hd, rfl⟩ := List.mem_map.mp hc
    have := isL_lo (h d hd)
    exact decide_eq_true (by omega)
  have e1 : lowD (.str s) = some (.str (s.map lo1)) := by
    unfold lowD
    dsimp only
    rw [if_pos (by rw [h1, Bool.true_and]; exact decide_eq_true (by omega))]
  have e2 : dSSet (.str (s.map lo1)) = some (.own ((srtD (s.map lo1)).map fun c => .str [c])) := by
    unfold dSSet
    dsimp only
    rw [if_pos (by rw [h3, Bool.true_and, List.length_map]; exact decide_eq_true (by omega))]
  have hb := srtD_len (s.map lo1)
  rw [List.length_map] at hb
  have e3 : dJoin (.str []) (.lst ((srtD (s.map lo1)).map fun c => .str [c])) = some (.str (lettersL s)) := by
    unfold dJoin
    dsimp only [sqOf]
    rw [strsD_map (fun c => [c])]
    dsimp only
    have := sum_le (g := fun c => [c]) (k := 1) (s := srtD (s.map lo1)) fun c _ => Nat.le_refl _
    rw [if_pos (by simp only [List.length_nil, Nat.mul_zero]; omega), joinL_nil, flat_one]
    rfl
  unfold m_letters_of mDef e_letters_of
  simp [sRet, M.vl, M.bind, mM1, mK, mC, M.ret, M.look, Pk.get, view, M.frz, mSSet, mM0, mPk, Sl.view, e1, e2, e3, M.opt, RV.toD, RV.out]
end Thr
namespace Thr
open PySem PySem.Spec PyProof.Rows L2 RZ Sh

/-- data of some depth -/
def okD : Nat → D → Bool
  | n + 1, .lst xs => decide (xs.length < 1000000) && xs.all (okD n)
  | n + 1, .tup xs => decide (xs.length < 1000000) && xs.all (okD n)
  | _, .non => true
  | _, .bl _ => true
  | _, .int _ => true
  | _, .str _ => true
  | _, _ => false
theorem zipD_self : ∀ xs : List D, zipD xs xs = xs.map fun d => .tup [d, d]
  | [] => rfl
  | x :: xs => by unfold zipD; rw [zipD_self xs]; rfl
theorem bls_true : ∀ xs : List D, bls (xs.map fun _ => D.bl true) = some (xs.map fun _ => true)
  | [] => rfl
  | x :: xs => by
    have := bls_true xs
    show bls (D.bl true :: xs.map fun _ => D.bl true) = _
    unfold bls
    rw [this]
    rfl
theorem all_true (xs : List D) : ((xs.map fun _ => true).all id) = true := by simp
theorem same_lc {f : MF} {xs : List D} {a b : Sl} {S : Store} (h : ∀ d, d ∈ xs → f [d, d] S = .ok (.val (.bl true)) S) {mi : M (List D)} (hmi : mi [a, b, .un, .un] S = .ok (zipD xs xs) [a, b, .un, .un] S) (hl : xs.length < 1000000) :
    ∃ ρ', mLC [2, 3] mi (tgT [2, 3]) mYes (p__law_same_1 f) [a, b, .un, .un] S = .ok (.own (xs.map fun _ => .bl true)) ρ' S := by
  obtain ⟨ρ', e, _⟩ := lcL_map (vs := [2, 3]) (mt := tgT [2, 3]) (tt := mYes) (te := p__law_same_1 f) (fun _ => .bl true) (zipD xs xs) [a, b, .un, .un] S (by
    intro d hd ρ0 h0
    rw [zipD_self] at hd
    obtain ⟨x, hx, rfl⟩ := List.mem_map.mp hd
    rw [h0]
    have hf := h x hx
    refine ⟨[a, b, .val x, .val x], [a, b, .val x, .val x], [a, b, .val x, .val x], rfl, rfl, ?_, rfl⟩
    unfold p__law_same_1
    simp [sSeq, sNil, sIf, sRet, sRetN, sSet, sPut, sDrop, sPars, rNil, rCons, putRVs, mIf, M.bind, M.ret, M.opt, M.look, M.looks, M.frz, M.vl, M.cel, mCmp, mB, mBl, dBl, mTru, dTru, mNot, mAnd, mOr, mAndV, mOrV, mNotV, mNil, mCons, mTup, mLst, mOp, mOpV, mPk, mK, mC, mVar, Pk.get, Pk.gets, Sl.view, view, mKNil, mKCons, mCallB, mCall0, mCallK, permL, dIx, atD, dAdd, dSub, dMod, dFdiv, dNeg, mNeg, dGt, dLt, dGe, dLe, dEq, dNe, RV.toSl, RV.toD, RV.out, RV.tru, mOrT, mSl, mPart, mNoP, dInt, dSl, fLen, fInt, fAbs, fList, fTuple, seqOf, sqOf, sFor, mRng1, mRng2, rng1, rng2, mEnum, enum1, mZip, zip2, lstOf, tgN, tgT, tgNs, mYes, mM0, mM1, mRevS, revS, mRevL, revL, dIn, dNotIn, mStore, lstAt, putAt, ixD, ixN, sSub, mApp, mListS, listS, mItS, strOf, mItA, lstOr, mItL, mItT, tupOf, mSSet, dSSet, mDef, sAug, dAddI, dSubI, SZ, M.alt, mGet2, isDic, dGetOr, dGet, mDNew, sDput, chkD, putD, sAsg, fLenD, mChain, dCount, dMul, hf])
  refine ⟨restE [a, b, .un, .un] (wipeE ρ' [2, 3]) [2, 3], ?_⟩
  unfold mLC M.bind
  rw [hmi]
  dsimp only
  rw [if_pos (by rw [zipD_self, List.length_map]; omega), e]
  dsimp only
  rw [zipD_self, List.map_map]
  rfl
theorem same_ok : ∀ (n : Nat) (d : D) (S : Store), okD n d = true → i__law_same (n + 1) [d, d] S = .ok (.val (.bl true)) S := by
  intro n
  induction n with
  | zero =>
    intro d S h
    cases d <;> first | (cases h; done) | skip
    all_goals
      show b__law_same (i__law_same 0) _ _ = _
      unfold b__law_same
      simp [sSeq, sNil, sIf, sRet, sRetN, sSet, sPut, sDrop, sPars, rNil, rCons, putRVs, mIf, M.bind, M.ret, M.opt, M.look, M.looks, M.frz, M.vl, M.cel, mCmp, mB, mBl, dBl, mTru, dTru, mNot, mAnd, mOr, mAndV, mOrV, mNotV, mNil, mCons, mTup, mLst, mOp, mOpV, mPk, mK, mC, mVar, Pk.get, Pk.gets, Sl.view, view, mKNil, mKCons, mCallB, mCall0, mCallK, permL, dIx, atD, dAdd, dSub, dMod, dFdiv, dNeg, mNeg, dGt, dLt, dGe, dLe, dEq, dNe, RV.toSl, RV.toD, RV.out, RV.tru, mOrT, mSl, mPart, mNoP, dInt, dSl, fLen, fInt, fAbs, fList, fTuple, seqOf, sqOf, sFor, mRng1, mRng2, rng1, rng2, mEnum, enum1, mZip, zip2, lstOf, tgN, tgT, tgNs, mYes, mM0, mM1, mRevS, revS, mRevL, revL, dIn, dNotIn, mStore, lstAt, putAt, ixD, ixN, sSub, mApp, mListS, listS, mItS, strOf, mItA, lstOr, mItL, mItT, tupOf, mSSet, dSSet, mDef, sAug, dAddI, dSubI, SZ, M.alt, mGet2, isDic, dGetOr, dGet, mDNew, sDput, chkD, putD, sAsg, fLenD, mChain, dCount, dMul, mIsiT, tyN, isTs, isT, fIsi, dIs, dIsN]
  | succ n ih =>
    intro d S h
    have seq : ∀ xs : List D, (d = .lst xs ∨ d = .tup xs) → xs.length < 1000000 → (∀ x, x ∈ xs → okD n x = true) → i__law_same (n + 2) [d, d] S = .ok (.val (.bl true)) S := by
      intro xs hd hl hx
      have hb := bls_true xs
      have hz : dEq (.int (xs.length : Int)) (.int (xs.length : Int)) = some true := by simp [dEq]
      rcases hd with rfl | rfl
      · obtain ⟨ρ', e⟩ := same_lc (f := i__law_same (n + 1)) (a := .val (.lst xs)) (b := .val (.lst xs)) (S := S) (fun x hx' => ih x S (hx x hx')) (mi := mZip (mCons (mVar 0) (mCons (mVar 1) mNil))) rfl hl
        show b__law_same (i__law_same (n + 1)) _ _ = _
        unfold b__law_same
        generalize mLC [2, 3] (mZip (mCons (mVar 0) (mCons (mVar 1) mNil))) (tgT [2, 3]) mYes (p__law_same_1 (i__law_same (n + 1))) = LC at e ⊢
        simp [sSeq, sNil, sIf, sRet, sRetN, sSet, sPut, sDrop, sPars, rNil, rCons, putRVs, mIf, M.bind, M.ret, M.opt, M.look, M.looks, M.frz, M.vl, M.cel, mCmp, mB, mBl, dBl, mTru, dTru, mNot, mAnd, mOr, mAndV, mOrV, mNotV, mNil, mCons, mTup, mLst, mOp, mOpV, mPk, mK, mC, mVar, Pk.get, Pk.gets, Sl.view, view, mKNil, mKCons, mCallB, mCall0, mCallK, permL, dIx, atD, dAdd, dSub, dMod, dFdiv, dNeg, mNeg, dGt, dLt, dGe, dLe, dEq, dNe, RV.toSl, RV.toD, RV.out, RV.tru, mOrT, mSl, mPart, mNoP, dInt, dSl, fLen, fInt, fAbs, fList, fTuple, seqOf, sqOf, sFor, mRng1, mRng2, rng1, rng2, mEnum, enum1, mZip, zip2, lstOf, tgN, tgT, tgNs, mYes, mM0, mM1, mRevS, revS, mRevL, revL, dIn, dNotIn, mStore, lstAt, putAt, ixD, ixN, sSub, mApp, mListS, listS, mItS, strOf, mItA, lstOr, mItL, mItT, tupOf, mSSet, dSSet, mDef, sAug, dAddI, dSubI, SZ, M.alt, mGet2, isDic, dGetOr, dGet, mDNew, sDput, chkD, putD, sAsg, fLenD, mChain, dCount, dMul, mIsiT, tyN, isTs, isT, fIsi, dIs, dIsN, e, fAll, hb]
      · obtain ⟨ρ', e⟩ := same_lc (f := i__law_same (n + 1)) (a := .val (.tup xs)) (b := .val (.tup xs)) (S := S) (fun x hx' => ih x S (hx x hx')) (mi := mZip (mCons (mVar 0) (mCons (mVar 1) mNil))) rfl hl
        show b__law_same (i__law_same (n + 1)) _ _ = _
        unfold b__law_same
        generalize mLC [2, 3] (mZip (mCons (mVar 0) (mCons (mVar 1) mNil))) (tgT [2, 3]) mYes (p__law_same_1 (i__law_same (n + 1))) = LC at e ⊢
        simp [sSeq, sNil, sIf, sRet, sRetN, sSet, sPut, sDrop, sPars, rNil, rCons, putRVs, mIf, M.bind, M.ret, M.opt, M.look, M.looks, M.frz, M.vl, M.cel, mCmp, mB, mBl, dBl, mTru, dTru, mNot, mAnd, mOr, mAndV, mOrV, mNotV, mNil, mCons, mTup, mLst, mOp, mOpV, mPk, mK, mC, mVar, Pk.get, Pk.gets, Sl.view, view, mKNil, mKCons, mCallB, mCall0, mCallK, permL, dIx, atD, dAdd, dSub, dMod, dFdiv, dNeg, mNeg, dGt, dLt, dGe, dLe, dEq, dNe, RV.toSl, RV.toD, RV.out, RV.tru, mOrT, mSl, mPart, mNoP, dInt, dSl, fLen, fInt, fAbs, fList, fTuple, seqOf, sqOf, sFor, mRng1, mRng2, rng1, rng2, mEnum, enum1, mZip, zip2, lstOf, tgN, tgT, tgNs, mYes, mM0, mM1, mRevS, revS, mRevL, revL, dIn, dNotIn, mStore, lstAt, putAt, ixD, ixN, sSub, mApp, mListS, listS, mItS, strOf, mItA, lstOr, mItL, mItT, tupOf, mSSet, dSSet, mDef, sAug, dAddI, dSubI, SZ, M.alt, mGet2, isDic, dGetOr, dGet, mDNew, sDput, chkD, putD, sAsg, fLenD, mChain, dCount, dMul, mIsiT, tyN, isTs, isT, fIsi, dIs, dIsN, e, fAll, hb]
    cases d with
    | lst xs =>
      unfold okD at h
      rw [Bool.and_eq_true, decide_eq_true_eq, List.all_eq_true] at h
      exact seq xs (.inl rfl) h.1 h.2
    | tup xs =>
      unfold okD at h
      rw [Bool.and_eq_true, decide_eq_true_eq, List.all_eq_true] at h
      exact seq xs (.inr rfl) h.1 h.2
    | rol xs => cases h
    | dic a b => cases h
    | cel a => cases h
    | typ a => cases h
    | _ =>
      show b__law_same (i__law_same (n + 1)) _ _ = _
      unfold b__law_same
      simp [sSeq, sNil, sIf, sRet, sRetN, sSet, sPut, sDrop, sPars, rNil, rCons, putRVs, mIf, M.bind, M.ret, M.opt, M.look, M.looks, M.frz, M.vl, M.cel, mCmp, mB, mBl, dBl, mTru, dTru, mNot, mAnd, mOr, mAndV, mOrV, mNotV, mNil, mCons, mTup, mLst, mOp, mOpV, mPk, mK, mC, mVar, Pk.get, Pk.gets, Sl.view, view, mKNil, mKCons, mCallB, mCall0, mCallK, permL, dIx, atD, dAdd, dSub, dMod, dFdiv, dNeg, mNeg, dGt, dLt, dGe, dLe, dEq, dNe, RV.toSl, RV.toD, RV.out, RV.tru, mOrT, mSl, mPart, mNoP, dInt, dSl, fLen, fInt, fAbs, fList, fTuple, seqOf, sqOf, sFor, mRng1, mRng2, rng1, rng2, mEnum, enum1, mZip, zip2, lstOf, tgN, tgT, tgNs, mYes, mM0, mM1, mRevS, revS, mRevL, revL, dIn, dNotIn, mStore, lstAt, putAt, ixD, ixN, sSub, mApp, mListS, listS, mItS, strOf, mItA, lstOr, mItL, mItT, tupOf, mSSet, dSSet, mDef, sAug, dAddI, dSubI, SZ, M.alt, mGet2, isDic, dGetOr, dGet, mDNew, sDput, chkD, putD, sAsg, fLenD, mChain, dCount, dMul, mIsiT, tyN, isTs, isT, fIsi, dIs, dIsN]
end Thr
namespace Thr
open PySem PySem.Spec PyProof.Rows L2 RZ Sh

theorem asc_uniq {l l' : List Nat} (h : l.Pairwise (· < ·)) (h' : l'.Pairwise (· < ·)) (m : ∀ x, x ∈ l ↔ x ∈ l') : l = l' := by
  have nd : ∀ {k : List Nat}, k.Pairwise (· < ·) → k.Nodup := fun {k} hk => hk.imp fun a e => by omega
  refine List.Perm.eq_of_pairwise (le := (· < ·)) (fun a b _ _ x y => by omega) h h' ((List.perm_ext_iff_of_nodup (nd h) (nd h')).mpr m)
theorem lets_asc : lets.Pairwise (· < ·) := by decide
theorem letters_filter {s : List Nat} (h : RowL s) : lets.filter (fun c => decide (c ∈ s.map lo1)) = lettersL s := by
  refine asc_uniq (lets_asc.filter _) (srtD_pw _) fun x => ?_
  unfold lettersL
  rw [List.mem_filter, srtD_mem, decide_eq_true_eq]
  refine ⟨fun z => z.2, fun z => ⟨?_, z⟩⟩
  obtain ⟨c, hc, rfl⟩ := List.mem_map.mp z
  exact lets_mem.mpr (isL_lo (h c hc))
theorem flip_row {s : List Nat} (h : RowL s) : RowL (backL s) ∧ (backL s).length = s.length ∧ backL (backL s) = s := by
  have key : ∀ s : List Nat, RowL s → RowL (s.map flipC).flatten ∧ (s.map flipC).flatten.length = s.length ∧ ((s.map flipC).flatten.map flipC).flatten = s := by
    intro s
    induction s with
    | nil => exact fun _ => ⟨fun c hc => by simp at hc, rfl, rfl⟩
    | cons c r ih =>
      intro h
      obtain ⟨a1, a2, a3⟩ := ih fun x hx => h x (List.mem_cons_of_mem _ hx)
      have hc := isL_iff.mp (h c (List.mem_cons_self ..))
      obtain ⟨d, hd, hd2, hd3⟩ : ∃ d, flipC c = [d] ∧ isL d = true ∧ flipC d = [c] := by
        unfold flipC
        by_cases z : c ∈ lets
        · rw [if_pos z]
          rw [lets_mem] at z
          refine ⟨c - 32, rfl, isL_iff.mpr (by omega), ?_⟩
          rw [if_neg (by rw [lets_mem]; omega)]
          congr 1; omega
        · rw [if_neg z]
          rw [lets_mem] at z
          refine ⟨c + 32, rfl, isL_iff.mpr (by omega), ?_⟩
          rw [if_pos (by rw [lets_mem]; omega)]
          congr 1
      simp only [List.map_cons, List.flatten_cons, hd, List.cons_append, List.nil_append]
      refine ⟨fun x hx => ?_, by simp [a2], by rw [hd3, a3]; rfl⟩
      rcases List.mem_cons.mp hx with z | z
      · rw [z]; exact hd2
      · exact a1 x z
  have hr : RowL s.reverse := fun c hc => h c (List.mem_reverse.mp hc)
  obtain ⟨a1, a2, a3⟩ := key s.reverse hr
  refine ⟨a1, by unfold backL; rw [a2, List.length_reverse], ?_⟩
  unfold backL
  have rv : ∀ s : List Nat, RowL s → (s.map flipC).flatten.reverse = (s.reverse.map flipC).flatten := by
    intro s
    induction s with
    | nil => exact fun _ => rfl
    | cons c r ih =>
      intro h
      have e1 : ∃ d, flipC c = [d] := by unfold flipC; split <;> exact ⟨_, rfl⟩
      obtain ⟨d, hd⟩ := e1
      simp only [List.map_cons, List.flatten_cons, hd, List.reverse_append, List.reverse_cons, List.reverse_nil, List.nil_append, List.map_append, List.flatten_append, List.map_nil, List.flatten_nil, List.append_nil]
      rw [ih fun x hx => h x (List.mem_cons_of_mem _ hx)]
  rw [rv s.reverse hr, List.reverse_reverse]
  exact (key s h).2.2
end Thr
namespace Thr
open PySem PySem.Spec PyProof.Rows L2 RZ Sh

/-! ### the law's own box, its end -/
def boxE (off : Int) : M Fl := (sSeq (sSet 2 (mIf (mCmp dLt (mPk 1) (mK (M.frz (mCallB fLen (mKCons (mPk 0) mKNil))))) (M.vl (mOpV dIx (mPk 0) (mPk 1))) (M.vl (mC (.int 0))))) (sRet (mLst (mCons (M.frz (mOp dMul (mK (M.frz (mCallB fAbs (mKCons (mPk 2) mKNil)))) (mK (M.frz (mCallB fInt (mKCons (mK (mB (mCmp dGe (mK (M.frz (mCallB fAbs (mKCons (mPk 2) mKNil)))) (mK (M.frz (mOp dPow (mK (mC (.int 10))) (mK (mC (.int 18))))))))) mKNil)))))) (mCons (M.frz (mOp dAdd (mK (M.frz (mOp dAdd (mK (M.frz (mOp dMod (mK (M.frz (mCallB fInt (mKCons (mPk 2) mKNil)))) (mK (mC (.int 2305843009213693951)))))) (mK (M.frz (mOp dMul (mK (mC (.int 39373))) (mPk 1))))))) (mK (mC (.int off))))) (mCons (mC (.int 0)) mNil))))))
theorem box_gen {off : Int} (h0 : 0 ≤ off) (h1 : off < 1000000) {cs : List Int} {k : Nat} {S : Store} (hk : k < cs.length) (hk2 : k < 1000) : ∃ a b : Int, mDef 2 3 (boxE off) [.lst (intL cs), .int k] S = .ok (.own [.int a, .int b, .int 0]) S ∧ 0 ≤ b ∧ b < 9223372036854775808 := by
  have e1 : (intL cs)[k]? = some (.int cs[k]) := by rw [List.getElem?_map, List.getElem?_eq_getElem hk]; rfl
  have hl : (k : Int) < ((intL cs).length : Int) := by rw [List.length_map]; omega
  generalize cs[k] = c at e1
  generalize intL cs = W at e1 hl
  have hm := Int.emod_nonneg c (show (2305843009213693951 : Int) ≠ 0 by omega)
  have hm2 := Int.emod_lt_of_pos c (show (0 : Int) < 2305843009213693951 by omega)
  have h3 : ∀ i : Int, CMulB i 0 = true := fun i => by unfold CMulB; simp
  have h4 : ∀ i : Int, CMulB i 1 = true := fun i => by unfold CMulB; simp
  have h5 : ∀ i : Int, CMulB 39373 i = true := fun i => by unfold CMulB; simp
  by_cases hc : 1000000000000000000 ≤ (if c < 0 then -c else c)
  · refine ⟨(if c < 0 then -c else c) * 1, c % 2305843009213693951 + 39373 * (k : Int) + off, ?_, by omega, by omega⟩
    unfold boxE
    simp [sSeq, sNil, sIf, sRet, sRetN, sSet, sPut, sDrop, sPars, rNil, rCons, putRVs, mIf, M.bind, M.ret, M.opt, M.look, M.looks, M.frz, M.vl, M.cel, mCmp, mB, mBl, dBl, mTru, dTru, mNot, mAnd, mOr, mAndV, mOrV, mNotV, mNil, mCons, mTup, mLst, mOp, mOpV, mPk, mK, mC, mVar, Pk.get, Pk.gets, Sl.view, view, mKNil, mKCons, mCallB, mCall0, mCallK, permL, dIx, atD, dAdd, dSub, dMod, dFdiv, dNeg, mNeg, dGt, dLt, dGe, dLe, dEq, dNe, RV.toSl, RV.toD, RV.out, RV.tru, mOrT, mSl, mPart, mNoP, dInt, dSl, fLen, fInt, fAbs, fList, fTuple, seqOf, sqOf, sFor, mRng1, mRng2, rng1, rng2, mEnum, enum1, mZip, zip2, lstOf, tgN, tgT, tgNs, mYes, mM0, mM1, mRevS, revS, mRevL, revL, dIn, dNotIn, mStore, lstAt, putAt, ixD, ixN, sSub, mApp, mListS, listS, mItS, strOf, mItA, lstOr, mItL, mItT, tupOf, mSSet, dSSet, mDef, sAug, dAddI, dSubI, SZ, M.alt, mGet2, isDic, dGetOr, dGet, mDNew, sDput, chkD, putD, sAsg, fLenD, mChain, dCount, hl, e1, dPow, hc, dMul, h3, h4, h5]
  · refine ⟨(if c < 0 then -c else c) * 0, c % 2305843009213693951 + 39373 * (k : Int) + off, ?_, by omega, by omega⟩
    unfold boxE
    simp [sSeq, sNil, sIf, sRet, sRetN, sSet, sPut, sDrop, sPars, rNil, rCons, putRVs, mIf, M.bind, M.ret, M.opt, M.look, M.looks, M.frz, M.vl, M.cel, mCmp, mB, mBl, dBl, mTru, dTru, mNot, mAnd, mOr, mAndV, mOrV, mNotV, mNil, mCons, mTup, mLst, mOp, mOpV, mPk, mK, mC, mVar, Pk.get, Pk.gets, Sl.view, view, mKNil, mKCons, mCallB, mCall0, mCallK, permL, dIx, atD, dAdd, dSub, dMod, dFdiv, dNeg, mNeg, dGt, dLt, dGe, dLe, dEq, dNe, RV.toSl, RV.toD, RV.out, RV.tru, mOrT, mSl, mPart, mNoP, dInt, dSl, fLen, fInt, fAbs, fList, fTuple, seqOf, sqOf, sFor, mRng1, mRng2, rng1, rng2, mEnum, enum1, mZip, zip2, lstOf, tgN, tgT, tgNs, mYes, mM0, mM1, mRevS, revS, mRevL, revL, dIn, dNotIn, mStore, lstAt, putAt, ixD, ixN, sSub, mApp, mListS, listS, mItS, strOf, mItA, lstOr, mItL, mItT, tupOf, mSSet, dSSet, mDef, sAug, dAddI, dSubI, SZ, M.alt, mGet2, isDic, dGetOr, dGet, mDNew, sDput, chkD, putD, sAsg, fLenD, mChain, dCount, hl, e1, dPow, hc, dMul, h3, h4, h5]
def lawP (rt bx : MF) : M D := (M.frz (mCall0 rt (mCons (M.cel (mCall0 bx (mCons (mVar 1) (mCons (mVar 2) mNil)))) mNil)))
def lawE (bh rt bx : MF) (most : Int) : M Fl := (sSeq (sIf (mNot (mBl (M.frz (mCall0 bh mNil)))) (sRet (M.vl (mC (.bl false)))) sNil) (sSeq (sSet 1 (mCall0 m__law_cells (mCons (mVar 0) (mCons (mC (.int most)) mNil)))) (sRet (mCallB fAll (mKCons (mK (M.frz (mLC [2] (mRng1 (mCons (M.frz (mCallB fLen (mKCons (mPk 1) mKNil))) mNil)) (tgN 2) mYes (lawP rt bx)))) mKNil)))))
theorem lcL_all {vs : List Nat} {mt : D → M Fl} {te : M D} : ∀ (ds : List D) (ρ : Env) (S : Store),
    (∀ d, d ∈ ds → ∀ ρ0 S0, wipeE ρ0 vs = wipeE ρ vs → ∃ ρ1 ρ3 S3, mt d (wipeE ρ0 vs) S0 = .ok .nx ρ1 S0 ∧ te ρ1 S0 = .ok (.bl true) ρ3 S3 ∧ wipeE ρ3 vs = wipeE ρ vs) → ∃ ρ' S', lcL vs mt mYes te ds ρ S = .ok (ds.map fun _ => .bl true) ρ' S'
  | [], ρ, S, _ => ⟨ρ, S, rfl⟩
  | d :: ds, ρ, S, h => by
    obtain ⟨ρ1, ρ3, S3, e1, e3, e4⟩ := h d (List.mem_cons_self ..) ρ S rfl
    obtain ⟨ρ', S', e5⟩ := lcL_all ds ρ3 S3 fun d' hd ρ0 S0 h0 => by
      obtain ⟨a, c, S4, x1, x3, x4⟩ := h d' (List.mem_cons_of_mem _ hd) ρ0 S0 (h0.trans e4)
      exact ⟨a, c, S4, x1, x3, x4.trans e4.symm⟩
    refine ⟨ρ', S', ?_⟩
    unfold lcL
    rw [e1]
    have ey : mYes ρ1 S = .ok true ρ1 S := rfl
    dsimp only
    rw [ey]
    dsimp only
    rw [e3]
    dsimp only
    rw [e5]
    rfl
theorem lcL_allP {vs : List Nat} {mt : D → M Fl} {te : M D} (P : Store → Prop) : ∀ (ds : List D) (ρ : Env) (S : Store), P S →
    (∀ d, d ∈ ds → ∀ ρ0 S0, P S0 → wipeE ρ0 vs = wipeE ρ vs → ∃ ρ1 ρ3 S3, mt d (wipeE ρ0 vs) S0 = .ok .nx ρ1 S0 ∧ te ρ1 S0 = .ok (.bl true) ρ3 S3 ∧ wipeE ρ3 vs = wipeE ρ vs ∧ P S3) → ∃ ρ' S', lcL vs mt mYes te ds ρ S = .ok (ds.map fun _ => .bl true) ρ' S'
  | [], ρ, S, _, _ => ⟨ρ, S, rfl⟩
  | d :: ds, ρ, S, hP, h => by
    obtain ⟨ρ1, ρ3, S3, e1, e3, e4, p3⟩ := h d (List.mem_cons_self ..) ρ S hP rfl
    obtain ⟨ρ', S', e5⟩ := lcL_allP P ds ρ3 S3 p3 fun d' hd ρ0 S0 p0 h0 => by
      obtain ⟨a, c, S4, x1, x3, x4, x5⟩ := h d' (List.mem_cons_of_mem _ hd) ρ0 S0 p0 (h0.trans e4)
      exact ⟨a, c, S4, x1, x3, x4.trans e4.symm, x5⟩
    refine ⟨ρ', S', ?_⟩
    unfold lcL
    rw [e1]
    have ey : mYes ρ1 S = .ok true ρ1 S := rfl
    dsimp only
    rw [ey]
    dsimp only
    rw [e3]
    dsimp only
    rw [e5]
    rfl
theorem law_gen {bh rt bx : MF} {most : Nat} {off : Int} (hm : 0 < most) (hm2 : most ≤ 63) (hb : bh [] [] = .ok (.val (.bl true)) []) (hx : bx = mDef 2 3 (boxE off)) (h0 : 0 ≤ off) (h1 : off < 1000000)
    (hr : ∀ S n, Bx S n 0 → ∃ S', rt [.cel n] S = .ok (.val (.bl true)) S' ∧ S'.all flatC = true) (ns : List Int) : ∃ S', mDef 1 3 (lawE bh rt bx most) [.rol (ns.map D.int)] [] = .ok (.val (.bl true)) S' := by
  obtain ⟨cs, e, l0, l1⟩ := cells_spec (ns := ns) (S := []) hm hm2
  have ok : okR (cs.length : Int) = true := by
    unfold okR
    rw [Bool.and_eq_true, decide_eq_true_eq, decide_eq_true_eq]; omega
  obtain ⟨ρ', S', el⟩ := lcL_allP (fun S => S.all flatC = true) (vs := [2]) (mt := tgN 2) (te := lawP rt bx) (rng 0 cs.length) [.val (.rol (intL ns)), .val (.lst (intL cs)), .un] [] rfl (by
    intro d hd ρ0 S0 hF hρ
    obtain ⟨i, hi⟩ := List.mem_iff_getElem?.mp hd
    obtain ⟨hin, rfl⟩ := rng_at hi
    obtain ⟨a, b, eb, b0, b1⟩ := box_gen (off := off) h0 h1 (cs := cs) (k := i) (S := S0) hin (by omega)
    rw [← hx] at eb
    obtain ⟨S3, er, hF3⟩ := hr (S0 ++ [.lst [.int a, .int b, .int 0]]) S0.length ⟨a, b, 0, by rw [List.getElem?_append_right (Nat.le_refl _)]; simp, b0, b1, by omega, by omega, by rw [List.all_append, hF]; rfl⟩
    rw [hρ]
    refine ⟨[.val (.rol (intL ns)), .val (.lst (intL cs)), .val (.int (i : Nat))], [.val (.rol (intL ns)), .val (.lst (intL cs)), .val (.int (i : Nat))], S3, rfl, ?_, rfl, hF3⟩
    unfold lawP
    simp [sSeq, sNil, sIf, sRet, sRetN, sSet, sPut, sDrop, sPars, rNil, rCons, putRVs, mIf, M.bind, M.ret, M.opt, M.look, M.looks, M.frz, M.vl, M.cel, mCmp, mB, mBl, dBl, mTru, dTru, mNot, mAnd, mOr, mAndV, mOrV, mNotV, mNil, mCons, mTup, mLst, mOp, mOpV, mPk, mK, mC, mVar, Pk.get, Pk.gets, Sl.view, view, mKNil, mKCons, mCallB, mCall0, mCallK, permL, dIx, atD, dAdd, dSub, dMod, dFdiv, dNeg, mNeg, dGt, dLt, dGe, dLe, dEq, dNe, RV.toSl, RV.toD, RV.out, RV.tru, mOrT, mSl, mPart, mNoP, dInt, dSl, fLen, fInt, fAbs, fList, fTuple, seqOf, sqOf, sFor, mRng1, mRng2, rng1, rng2, mEnum, enum1, mZip, zip2, lstOf, tgN, tgT, tgNs, mYes, mM0, mM1, mRevS, revS, mRevL, revL, dIn, dNotIn, mStore, lstAt, putAt, ixD, ixN, sSub, mApp, mListS, listS, mItS, strOf, mItA, lstOr, mItL, mItT, tupOf, mSSet, dSSet, mDef, sAug, dAddI, dSubI, SZ, M.alt, mGet2, isDic, dGetOr, dGet, mDNew, sDput, chkD, putD, sAsg, fLenD, mChain, dCount, eb, er])
  refine ⟨S', ?_⟩
  have hbl := bls_true (rng 0 cs.length)
  have hlc : mLC [2] (mRng1 (mCons (M.frz (mCallB fLen (mKCons (mPk 1) mKNil))) mNil)) (tgN 2) mYes (lawP rt bx) [.val (.rol (intL ns)), .val (.lst (intL cs)), .un] [] = .ok (.own ((rng 0 cs.length).map fun _ => .bl true)) (restE [.val (.rol (intL ns)), .val (.lst (intL cs)), .un] (wipeE ρ' [2]) [2]) S' := by
    unfold mLC
    have hi : mRng1 (mCons (M.frz (mCallB fLen (mKCons (mPk 1) mKNil))) mNil) [.val (.rol (intL ns)), .val (.lst (intL cs)), .un] [] = .ok (rng 0 cs.length) [.val (.rol (intL ns)), .val (.lst (intL cs)), .un] [] := by
      simp [sSeq, sNil, sIf, sRet, sRetN, sSet, sPut, sDrop, sPars, rNil, rCons, putRVs, mIf, M.bind, M.ret, M.opt, M.look, M.looks, M.frz, M.vl, M.cel, mCmp, mB, mBl, dBl, mTru, dTru, mNot, mAnd, mOr, mAndV, mOrV, mNotV, mNil, mCons, mTup, mLst, mOp, mOpV, mPk, mK, mC, mVar, Pk.get, Pk.gets, Sl.view, view, mKNil, mKCons, mCallB, mCall0, mCallK, permL, dIx, atD, dAdd, dSub, dMod, dFdiv, dNeg, mNeg, dGt, dLt, dGe, dLe, dEq, dNe, RV.toSl, RV.toD, RV.out, RV.tru, mOrT, mSl, mPart, mNoP, dInt, dSl, fLen, fInt, fAbs, fList, fTuple, seqOf, sqOf, sFor, mRng1, mRng2, rng1, rng2, mEnum, enum1, mZip, zip2, lstOf, tgN, tgT, tgNs, mYes, mM0, mM1, mRevS, revS, mRevL, revL, dIn, dNotIn, mStore, lstAt, putAt, ixD, ixN, sSub, mApp, mListS, listS, mItS, strOf, mItA, lstOr, mItL, mItT, tupOf, mSSet, dSSet, mDef, sAug, dAddI, dSubI, SZ, M.alt, mGet2, isDic, dGetOr, dGet, mDNew, sDput, chkD, putD, sAsg, fLenD, mChain, dCount, ok]
    unfold M.bind
    rw [hi]
    dsimp only
    rw [if_pos (by rw [rng_len]; omega), el]
  unfold lawE
  generalize mLC [2] (mRng1 (mCons (M.frz (mCallB fLen (mKCons (mPk 1) mKNil))) mNil)) (tgN 2) mYes (lawP rt bx) = LC at hlc ⊢
  have e' : m__law_cells [.rol (intL ns), .int (most : Int)] [] = .ok (.val (.lst (intL cs))) [] := e
  show mDef 1 3 _ [.rol (intL ns)] [] = _
  generalize intL ns = W at e' hlc ⊢
  generalize intL cs = W2 at e' hlc ⊢
  generalize (rng 0 cs.length) = W3 at hlc hbl
  simp [sSeq, sNil, sIf, sRet, sRetN, sSet, sPut, sDrop, sPars, rNil, rCons, putRVs, mIf, M.bind, M.ret, M.opt, M.look, M.looks, M.frz, M.vl, M.cel, mCmp, mB, mBl, dBl, mTru, dTru, mNot, mAnd, mOr, mAndV, mOrV, mNotV, mNil, mCons, mTup, mLst, mOp, mOpV, mPk, mK, mC, mVar, Pk.get, Pk.gets, Sl.view, view, mKNil, mKCons, mCallB, mCall0, mCallK, permL, dIx, atD, dAdd, dSub, dMod, dFdiv, dNeg, mNeg, dGt, dLt, dGe, dLe, dEq, dNe, RV.toSl, RV.toD, RV.out, RV.tru, mOrT, mSl, mPart, mNoP, dInt, dSl, fLen, fInt, fAbs, fList, fTuple, seqOf, sqOf, sFor, mRng1, mRng2, rng1, rng2, mEnum, enum1, mZip, zip2, lstOf, tgN, tgT, tgNs, mYes, mM0, mM1, mRevS, revS, mRevL, revL, dIn, dNotIn, mStore, lstAt, putAt, ixD, ixN, sSub, mApp, mListS, listS, mItS, strOf, mItA, lstOr, mItL, mItT, tupOf, mSSet, dSSet, mDef, sAug, dAddI, dSubI, SZ, M.alt, mGet2, isDic, dGetOr, dGet, mDNew, sDput, chkD, putD, sAsg, fLenD, mChain, dCount, hb, e', hlc, fAll, hbl]
end Thr
namespace Thr

/-! ### how often letters stand in which order: of the row told backwards -/
def b2n (b : Bool) : Nat := if b then 1 else 0
def r1 (x : Nat) : List Nat → Nat
  | [] => 0
  | c :: p => r1 x p + b2n (c == x)
def r2 (x y : Nat) : List Nat → Nat
  | [] => 0
  | c :: p => r2 x y p + r1 x p * b2n (c == y)
def r3 (x y z : Nat) : List Nat → Nat
  | [] => 0
  | c :: p => r3 x y z p + r2 x y p * b2n (c == z)
def n1 (x : Nat) (p : List Nat) : Nat := r1 x p.reverse
def n2 (x y : Nat) (p : List Nat) : Nat := r2 x y p.reverse
def n3 (x y z : Nat) (p : List Nat) : Nat := r3 x y z p.reverse
section
variable {x y z c : Nat} {p : List Nat}
theorem n1_nil : n1 x [] = 0 := rfl
theorem n2_nil : n2 x y [] = 0 := rfl
theorem n3_nil : n3 x y z [] = 0 := rfl
theorem n1_snoc : n1 x (p ++ [c]) = n1 x p + b2n (c == x) := by unfold n1; rw [List.reverse_append]; rfl
theorem n2_snoc : n2 x y (p ++ [c]) = n2 x y p + n1 x p * b2n (c == y) := by unfold n2 n1; rw [List.reverse_append]; rfl
theorem n3_snoc : n3 x y z (p ++ [c]) = n3 x y z p + n2 x y p * b2n (c == z) := by unfold n3 n2; rw [List.reverse_append]; rfl
end
theorem r1_le (x : Nat) : ∀ p : List Nat, r1 x p ≤ p.length
  | [] => Nat.le_refl _
  | c :: p => by
    have := r1_le x p
    unfold r1 b2n
    simp only [List.length_cons]
    split <;> omega
theorem n1_le (x : Nat) (p : List Nat) : n1 x p ≤ p.length := by
  have := r1_le x p.reverse
  rwa [List.length_reverse] at this
theorem r1_count (x : Nat) : ∀ p : List Nat, r1 x p = p.count x
  | [] => rfl
  | c :: p => by
    unfold r1 b2n
    rw [List.count_cons, r1_count x p]
theorem n1_count (x : Nat) (p : List Nat) : n1 x p = p.count x := by
  unfold n1
  rw [r1_count, List.count_reverse]
theorem r1_pos {x : Nat} {p : List Nat} : 0 < r1 x p ↔ x ∈ p := by rw [r1_count]; exact List.count_pos_iff
theorem n1_pos {x : Nat} {p : List Nat} : 0 < n1 x p ↔ x ∈ p := by rw [n1_count]; exact List.count_pos_iff
theorem n1_zero {x : Nat} {p : List Nat} (h : ¬ x ∈ p) : n1 x p = 0 := by
  rw [n1_count]; exact List.count_eq_zero.mpr h
theorem r2_zero {x y : Nat} : ∀ {p : List Nat}, ¬ x ∈ p ∨ ¬ y ∈ p → r2 x y p = 0
  | [], _ => rfl
  | c :: p, h => by
    unfold r2
    have h' : ¬ x ∈ p ∨ ¬ y ∈ p := by
      rcases h with h | h
      · exact .inl fun m => h (List.mem_cons_of_mem _ m)
      · exact .inr fun m => h (List.mem_cons_of_mem _ m)
    rw [r2_zero h']
    rcases h with h | h
    · have : r1 x p = 0 := by
        have := (r1_pos (x := x) (p := p))
        have h2 : ¬ x ∈ p := fun m => h (List.mem_cons_of_mem _ m)
        rw [← this] at h2; omega
      rw [this]; simp
    · have : ¬ c = y := fun e => h (by rw [e]; exact List.mem_cons_self)
      unfold b2n
      simp [this]
theorem n2_zero {x y : Nat} {p : List Nat} (h : ¬ x ∈ p ∨ ¬ y ∈ p) : n2 x y p = 0 := by
  unfold n2
  refine r2_zero ?_
  rwa [List.mem_reverse, List.mem_reverse]
/-- pairs that are there have both letters -/
theorem r3_zero {x y z : Nat} : ∀ {p : List Nat}, ¬ x ∈ p ∨ ¬ y ∈ p ∨ ¬ z ∈ p → r3 x y z p = 0
  | [], _ => rfl
  | c :: p, h => by
    unfold r3
    have h' : ¬ x ∈ p ∨ ¬ y ∈ p ∨ ¬ z ∈ p := by
      rcases h with h | h | h
      · exact .inl fun m => h (List.mem_cons_of_mem _ m)
      · exact .inr (.inl fun m => h (List.mem_cons_of_mem _ m))
      · exact .inr (.inr fun m => h (List.mem_cons_of_mem _ m))
    rw [r3_zero h']
    rcases h with h | h | h
    · rw [r2_zero (.inl fun m => h (List.mem_cons_of_mem _ m))]; simp
    · rw [r2_zero (.inr fun m => h (List.mem_cons_of_mem _ m))]; simp
    · have : ¬ c = z := fun e => h (by rw [e]; exact List.mem_cons_self)
      unfold b2n
      simp [this]
theorem n3_zero {x y z : Nat} {p : List Nat} (h : ¬ x ∈ p ∨ ¬ y ∈ p ∨ ¬ z ∈ p) : n3 x y z p = 0 := by
  unfold n3
  refine r3_zero ?_
  rwa [List.mem_reverse, List.mem_reverse, List.mem_reverse]
theorem r2_le (x y : Nat) : ∀ p : List Nat, r2 x y p ≤ p.length * p.length
  | [] => Nat.le_refl _
  | c :: p => by
    have h1 := r2_le x y p
    have h2 := r1_le x p
    unfold r2 b2n
    simp only [List.length_cons]
    have : (p.length + 1) * (p.length + 1) = p.length * p.length + 2 * p.length + 1 := by
      rw [Nat.mul_add, Nat.add_mul]; omega
    split <;> omega

/-! ### the names of a form: letters, twos, threes -/
def names2 (ls : List Nat) : List (List Nat) := ls.flatMap fun x => (ls.filter fun y => decide (x < y)).map fun y => [x, y]
def names3 (ls : List Nat) : List (List Nat) := ls.flatMap fun x => ls.flatMap fun y => (ls.filter fun z => decide (x < y) && decide (y < z)).map fun z => [x, y, z]
def names1 (ls : List Nat) : List (List Nat) := ls.map fun x => [x]
theorem names2_mem {ls : List Nat} {s : List Nat} : s ∈ names2 ls ↔ ∃ x y, s = [x, y] ∧ x ∈ ls ∧ y ∈ ls ∧ x < y := by
  unfold names2
  simp only [List.mem_flatMap, List.mem_map, List.mem_filter, decide_eq_true_eq]
  exact ⟨fun ⟨x, hx, y, ⟨hy, h⟩, e⟩ => ⟨x, y, e.symm, hx, hy, h⟩, fun ⟨x, y, e, hx, hy, h⟩ => ⟨x, hx, y, ⟨hy, h⟩, e.symm⟩⟩
theorem names3_mem {ls : List Nat} {s : List Nat} : s ∈ names3 ls ↔ ∃ x y z, s = [x, y, z] ∧ x ∈ ls ∧ y ∈ ls ∧ z ∈ ls ∧ x < y ∧ y < z := by
  unfold names3
  simp only [List.mem_flatMap, List.mem_map, List.mem_filter, Bool.and_eq_true, decide_eq_true_eq]
  exact ⟨fun ⟨x, hx, y, hy, z, ⟨hz, h⟩, e⟩ => ⟨x, y, z, e.symm, hx, hy, hz, h⟩, fun ⟨x, y, z, e, hx, hy, hz, h⟩ => ⟨x, hx, y, hy, z, ⟨hz, h⟩, e.symm⟩⟩
theorem names1_mem {ls : List Nat} {s : List Nat} : s ∈ names1 ls ↔ ∃ x, s = [x] ∧ x ∈ ls := by
  unfold names1
  simp only [List.mem_map]
  exact ⟨fun ⟨x, h, e⟩ => ⟨x, e.symm, h⟩, fun ⟨x, e, h⟩ => ⟨x, h, e.symm⟩⟩
theorem lt_one {x y : Nat} : ([x] : List Nat) < [y] ↔ x < y := by
  constructor
  · intro h
    rcases List.cons_lt_cons_iff.mp h with h | ⟨_, h⟩
    · exact h
    · exact absurd h (by simp)
  · exact fun h => List.cons_lt_cons_iff.mpr (.inl h)
theorem names1_asc {ls : List Nat} (h : ls.Pairwise (· < ·)) : (names1 ls).Pairwise (· < ·) := by
  unfold names1
  rw [List.pairwise_map]
  exact h.imp fun {a b} e => lt_one.mpr e
theorem names2_asc {ls : List Nat} (h : ls.Pairwise (· < ·)) : (names2 ls).Pairwise (· < ·) := by
  unfold names2
  rw [List.pairwise_flatMap]
  refine ⟨fun x _ => ?_, h.imp fun {x x'} e a ha b hb => ?_⟩
  · rw [List.pairwise_map]
    exact (h.filter _).imp fun {a b} e => List.cons_lt_cons_iff.mpr (.inr ⟨rfl, lt_one.mpr e⟩)
  · obtain ⟨y, _, rfl⟩ := List.mem_map.mp ha
    obtain ⟨y', _, rfl⟩ := List.mem_map.mp hb
    exact List.cons_lt_cons_iff.mpr (.inl e)
theorem names3_asc {ls : List Nat} (h : ls.Pairwise (· < ·)) : (names3 ls).Pairwise (· < ·) := by
  unfold names3
  rw [List.pairwise_flatMap]
  refine ⟨fun x _ => ?_, h.imp fun {x x'} e a ha b hb => ?_⟩
  · rw [List.pairwise_flatMap]
    refine ⟨fun y _ => ?_, h.imp fun {y y'} e a ha b hb => ?_⟩
    · rw [List.pairwise_map]
      exact (h.filter _).imp fun {a b} e => List.cons_lt_cons_iff.mpr (.inr ⟨rfl, List.cons_lt_cons_iff.mpr (.inr ⟨rfl, lt_one.mpr e⟩)⟩)
    · obtain ⟨z, _, rfl⟩ := List.mem_map.mp ha
      obtain ⟨z', _, rfl⟩ := List.mem_map.mp hb
      exact List.cons_lt_cons_iff.mpr (.inr ⟨rfl, List.cons_lt_cons_iff.mpr (.inl e)⟩)
  · simp only [List.mem_flatMap, List.mem_map] at ha hb
    obtain ⟨y, _, z, _, rfl⟩ := ha
    obtain ⟨y', _, z', _, rfl⟩ := hb
    exact List.cons_lt_cons_iff.mpr (.inl e)
/-- ascending lists with the same members are the same -/
theorem ascS_uniq {l l' : List (List Nat)} (h : l.Pairwise (· < ·)) (h' : l'.Pairwise (· < ·)) (m : ∀ x, x ∈ l ↔ x ∈ l') : l = l' := by
  have ir : ∀ a : List Nat, ¬ a < a := fun a => List.lt_irrefl a
  have nd : ∀ {k : List (List Nat)}, k.Pairwise (· < ·) → k.Nodup := fun {k} hk => hk.imp fun {a b} (e : a < b) => show a ≠ b from fun q => ir a (by rw [← q] at e; exact e)
  refine List.Perm.eq_of_pairwise (le := (· < ·)) (fun a b _ _ x y => absurd (List.lt_trans x y) (ir a)) h h' ((List.perm_ext_iff_of_nodup (nd h) (nd h')).mpr m)
/-- the counts of a plain row by name -/
def g1 (p : List Nat) : List Nat → Int
  | [x] => (n1 x p : Nat)
  | _ => 0
def g2 (p : List Nat) : List Nat → Int
  | [x, y] => (n2 x y p : Nat)
  | _ => 0
def g3 (p : List Nat) : List Nat → Int
  | [x, y, z] => (n3 x y z p : Nat) - (n3 y x z p : Nat)
  | _ => 0
end Thr
namespace Thr
open PySem PySem.Spec PyProof.Rows L2 RZ Sh

/-! ### loops told by what has been done -/
theorem forL_pre {α : Type} {tg : D → M Fl} {body : M Fl} (g : α → D) (I : List α → Env → Store → Prop) : ∀ (xs q0 : List α) (ρ : Env) (S : Store), I q0 ρ S →
    (∀ q c r, xs = q ++ c :: r → ∀ ρ S, I (q0 ++ q) ρ S → ∃ ρ1 S1 f ρ2 S2, tg (g c) ρ S = .ok .nx ρ1 S1 ∧ body ρ1 S1 = .ok f ρ2 S2 ∧ (f = .nx ∨ f = .ct) ∧ I (q0 ++ q ++ [c]) ρ2 S2) →
    ∃ ρ' S', forL tg body (xs.map g) ρ S = .ok .nx ρ' S' ∧ I (q0 ++ xs) ρ' S'
  | [], q0, ρ, S, h, _ => ⟨ρ, S, rfl, by rw [List.append_nil]; exact h⟩
  | c :: xs, q0, ρ, S, h, st => by
    obtain ⟨ρ1, S1, f, ρ2, S2, e1, e2, hf, h2⟩ := st [] c xs rfl ρ S (by rw [List.append_nil]; exact h)
    rw [List.append_nil] at h2
    obtain ⟨ρ', S', e3, h3⟩ := forL_pre g I xs (q0 ++ [c]) ρ2 S2 h2 fun q d r e ρ S hI => by
      have := st (c :: q) d r (by rw [e]; rfl) ρ S (by rw [show q0 ++ c :: q = q0 ++ [c] ++ q by simp]; exact hI)
      rw [show q0 ++ c :: q = q0 ++ [c] ++ q by simp] at this
      exact this
    refine ⟨ρ', S', ?_, by rw [show q0 ++ c :: xs = q0 ++ [c] ++ xs by simp]; exact h3⟩
    rw [List.map_cons]
    unfold forL
    rw [e1]
    dsimp only
    rw [e2]
    rcases hf with rfl | rfl <;> exact e3
theorem forL_pre0 {α : Type} {tg : D → M Fl} {body : M Fl} (g : α → D) (I : List α → Env → Store → Prop) (xs : List α) (ρ : Env) (S : Store) (h : I [] ρ S)
    (st : ∀ q c r, xs = q ++ c :: r → ∀ ρ S, I q ρ S → ∃ ρ1 S1 f ρ2 S2, tg (g c) ρ S = .ok .nx ρ1 S1 ∧ body ρ1 S1 = .ok f ρ2 S2 ∧ (f = .nx ∨ f = .ct) ∧ I (q ++ [c]) ρ2 S2) :
    ∃ ρ' S', forL tg body (xs.map g) ρ S = .ok .nx ρ' S' ∧ I xs ρ' S' :=
  forL_pre g I xs [] ρ S h st
abbrev chD (c : Nat) : D := .str [c]
theorem plainL_len (s : List Nat) : (plainL s).length ≤ 2 * s.length := by
  unfold plainL
  rw [List.length_flatten]
  exact sum_le fun c _ => plainC_len c
theorem b2n_eq (c x : Nat) : b2n (c == x) = if c = x then 1 else 0 := by
  unfold b2n
  by_cases h : c = x
  · rw [if_pos (by rw [h]; simp), if_pos h]
  · rw [if_neg (by simpa using h), if_neg h]
theorem cmul_if {p : Prop} [Decidable p] (i : Int) : CMulB i (if p then 1 else 0) = true := by
  unfold CMulB
  have h : (decide (-(2 ^ 64 : Int) < (if p then 1 else 0)) && decide ((if p then (1 : Int) else 0) < 2 ^ 64)) = true := by split <;> decide
  rw [h, Bool.or_true]
theorem dMul_if {p : Prop} [Decidable p] (i : Int) : dMul (.int i) (.int (if p then 1 else 0)) = some (.val (.int (i * if p then 1 else 0))) := by
  unfold dMul
  dsimp only
  rw [if_pos (cmul_if i)]
theorem ix3_0 (x y z : Nat) : dIx (.str [x, y, z]) (.int 0) = some (.str [x]) := by unfold dIx; dsimp only; rw [if_pos (by rw [SZ_is]; exact (by decide : 3 ≤ 16777216))]; rfl
theorem ix3_1 (x y z : Nat) : dIx (.str [x, y, z]) (.int 1) = some (.str [y]) := by unfold dIx; dsimp only; rw [if_pos (by rw [SZ_is]; exact (by decide : 3 ≤ 16777216))]; rfl
theorem ix3_2 (x y z : Nat) : dIx (.str [x, y, z]) (.int 2) = some (.str [z]) := by unfold dIx; dsimp only; rw [if_pos (by rw [SZ_is]; exact (by decide : 3 ≤ 16777216))]; rfl
theorem int_if {p : Prop} [Decidable p] : (((if p then 1 else 0 : Nat)) : Int) = if p then 1 else 0 := by split <;> rfl
/-! ### in_order -/
theorem aug_mul {ρ : Env} {i j k o : Nat} {n : Int} {t b : Int} {c z : Nat} {w : List Nat} {S : Store} (hi : ρ[i]? = some (.val (.int t))) (hj : ρ[j]? = some (.val (.int b))) (hk : ρ[k]? = some (.val (.str [c]))) (ho : ρ[o]? = some (.val (.str w))) (hz : dIx (.str w) (.int n) = some (.str [z])) :
    sAug i dAddI (M.frz (mOp dMul (mPk j) (mK (M.frz (mCallB fInt (mKCons (mK (mB (mCmp dEq (mPk k) (mK (mOpV dIx (mPk o) (mK (mC (.int n)))))))) mKNil)))))) ρ S = .ok .nx (ρ.set i (.val (.int (t + b * (if c = z then 1 else 0))))) S := by
  have hlt : i < ρ.length := (List.getElem?_eq_some_iff.mp hi).1
  simp only [sSeq, sNil, sIf, sRet, sRetN, sSet, sPut, sDrop, sPars, rNil, rCons, putRVs, mIf, M.bind, M.ret, M.opt, M.look, M.looks, M.frz, M.vl, M.cel, mCmp, mB, mBl, dBl, mTru, dTru, mNot, mAnd, mOr, mAndV, mOrV, mNotV, mNil, mCons, mTup, mLst, mOp, mOpV, mPk, mK, mC, mVar, Pk.get, Pk.gets, Sl.view, view, mKNil, mKCons, mCallB, mCall0, mCallK, permL, atD, dAdd, dSub, dMod, dFdiv, dNeg, mNeg, dGt, dLt, dGe, dLe, dEq, dNe, RV.toSl, RV.toD, RV.out, RV.tru, mOrT, mSl, mPart, mNoP, dInt, dSl, fLen, fInt, fAbs, fList, fTuple, seqOf, sqOf, sFor, mRng1, mRng2, rng1, rng2, mEnum, enum1, mZip, zip2, lstOf, tgN, tgT, tgNs, mYes, mM0, mM1, mRevS, revS, mRevL, revL, dIn, dNotIn, mStore, lstAt, putAt, ixD, ixN, sSub, mApp, mListS, listS, mItS, strOf, mItA, lstOr, mItL, mItT, tupOf, mSSet, dSSet, mDef, sAug, dAddI, dSubI, SZ, M.alt, mGet2, isDic, dGetOr, dGet, mDNew, sDput, chkD, putD, sAsg, fLenD, mChain, dCount, hi, hj, hk, ho, hz, hlt, dMul_if, if_true, decide_eq_true_eq, List.cons.injEq, and_true]
theorem aug_one {ρ : Env} {i k o : Nat} {n : Int} {t : Int} {c z : Nat} {w : List Nat} {S : Store} (hi : ρ[i]? = some (.val (.int t))) (hk : ρ[k]? = some (.val (.str [c]))) (ho : ρ[o]? = some (.val (.str w))) (hz : dIx (.str w) (.int n) = some (.str [z])) :
    sAug i dAddI (M.frz (mCallB fInt (mKCons (mK (mB (mCmp dEq (mPk k) (mK (mOpV dIx (mPk o) (mK (mC (.int n)))))))) mKNil))) ρ S = .ok .nx (ρ.set i (.val (.int (t + (if c = z then 1 else 0))))) S := by
  have hlt : i < ρ.length := (List.getElem?_eq_some_iff.mp hi).1
  simp only [sSeq, sNil, sIf, sRet, sRetN, sSet, sPut, sDrop, sPars, rNil, rCons, putRVs, mIf, M.bind, M.ret, M.opt, M.look, M.looks, M.frz, M.vl, M.cel, mCmp, mB, mBl, dBl, mTru, dTru, mNot, mAnd, mOr, mAndV, mOrV, mNotV, mNil, mCons, mTup, mLst, mOp, mOpV, mPk, mK, mC, mVar, Pk.get, Pk.gets, Sl.view, view, mKNil, mKCons, mCallB, mCall0, mCallK, permL, atD, dAdd, dSub, dMod, dFdiv, dNeg, mNeg, dGt, dLt, dGe, dLe, dEq, dNe, RV.toSl, RV.toD, RV.out, RV.tru, mOrT, mSl, mPart, mNoP, dInt, dSl, fLen, fInt, fAbs, fList, fTuple, seqOf, sqOf, sFor, mRng1, mRng2, rng1, rng2, mEnum, enum1, mZip, zip2, lstOf, tgN, tgT, tgNs, mYes, mM0, mM1, mRevS, revS, mRevL, revL, dIn, dNotIn, mStore, lstAt, putAt, ixD, ixN, sSub, mApp, mListS, listS, mItS, strOf, mItA, lstOr, mItL, mItT, tupOf, mSSet, dSSet, mDef, sAug, dAddI, dSubI, SZ, M.alt, mGet2, isDic, dGetOr, dGet, mDNew, sDput, chkD, putD, sAsg, fLenD, mChain, dCount, hi, hk, ho, hz, hlt, if_true, decide_eq_true_eq, List.cons.injEq, and_true]
theorem seq_nx {m n : M Fl} {ρ ρ1 : Env} {S S1 : Store} (h : m ρ S = .ok .nx ρ1 S1) : sSeq m n ρ S = n ρ1 S1 := by
  unfold sSeq M.bind
  rw [h]
theorem order_step {s : List Nat} {x y z c a b t : Nat} {S : Store} :
    p_in_order_1 [.val (.str s), .val (.str [x, y, z]), .val (.str [c]), .val (.int a), .val (.int b), .val (.int t)] S = .ok .nx [.val (.str s), .val (.str [x, y, z]), .val (.str [c]), .val (.int ((a + b2n (c == x) : Nat))), .val (.int ((b + a * b2n (c == y) : Nat))), .val (.int ((t + b * b2n (c == z) : Nat)))] S := by
  rw [b2n_eq, b2n_eq, b2n_eq, Int.natCast_add, Int.natCast_add, Int.natCast_add, Int.natCast_mul, Int.natCast_mul, int_if, int_if, int_if]
  unfold p_in_order_1
  exact (seq_nx (aug_mul (ρ := [.val (.str s), .val (.str [x, y, z]), .val (.str [c]), .val (.int a), .val (.int b), .val (.int t)]) (i := 5) (j := 4) (k := 2) (o := 1) (t := t) (b := b) (c := c) (z := z) (w := [x, y, z]) rfl rfl rfl rfl (ix3_2 x y z))).trans
    ((seq_nx (aug_mul (ρ := [.val (.str s), .val (.str [x, y, z]), .val (.str [c]), .val (.int a), .val (.int b), .val (.int (t + b * if c = z then 1 else 0))]) (i := 4) (j := 3) (k := 2) (o := 1) (t := b) (b := a) (c := c) (z := y) (w := [x, y, z]) rfl rfl rfl rfl (ix3_1 x y z))).trans
    (aug_one (ρ := [.val (.str s), .val (.str [x, y, z]), .val (.str [c]), .val (.int a), .val (.int (b + a * if c = y then 1 else 0)), .val (.int (t + b * if c = z then 1 else 0))]) (i := 3) (k := 2) (o := 1) (t := a) (c := c) (z := x) (w := [x, y, z]) rfl rfl rfl (ix3_0 x y z)))
theorem order_spec {s : List Nat} {x y z : Nat} {S : Store} (h : RowL s) (hl : s.length < 1000000) : m_in_order [.str s, .str [x, y, z]] S = .ok (.val (.int (n3 x y z (plainL s) : Nat))) S := by
  have ep := plain_spec (S := S) h hl
  obtain ⟨ρ', S', e, ⟨sl, rfl⟩, rfl⟩ := forL_pre0 (tg := tgN 2) (body := p_in_order_1) chD (fun q ρ S1 => (∃ sl, ρ = [.val (.str s), .val (.str [x, y, z]), sl, .val (.int (n1 x q : Nat)), .val (.int (n2 x y q : Nat)), .val (.int (n3 x y z q : Nat))]) ∧ S1 = S) (plainL s)
    [.val (.str s), .val (.str [x, y, z]), .un, .val (.int 0), .val (.int 0), .val (.int 0)] S ⟨⟨.un, rfl⟩, rfl⟩ (by
    rintro q c r hq ρ S1 ⟨⟨sl, rfl⟩, rfl⟩
    refine ⟨[.val (.str s), .val (.str [x, y, z]), .val (.str [c]), .val (.int (n1 x q : Nat)), .val (.int (n2 x y q : Nat)), .val (.int (n3 x y z q : Nat))], S1, .nx, _, S1, rfl, order_step, .inl rfl, ⟨.val (.str [c]), ?_⟩, rfl⟩
    rw [n1_snoc, n2_snoc, n3_snoc])
  unfold m_in_order
  simp [sSeq, sNil, sIf, sRet, sRetN, sSet, sPut, sDrop, sPars, rNil, rCons, putRVs, mIf, M.bind, M.ret, M.opt, M.look, M.looks, M.frz, M.vl, M.cel, mCmp, mB, mBl, dBl, mTru, dTru, mNot, mAnd, mOr, mAndV, mOrV, mNotV, mNil, mCons, mTup, mLst, mOp, mOpV, mPk, mK, mC, mVar, Pk.get, Pk.gets, Sl.view, view, mKNil, mKCons, mCallB, mCall0, mCallK, permL, dIx, atD, dAdd, dSub, dMod, dFdiv, dNeg, mNeg, dGt, dLt, dGe, dLe, dEq, dNe, RV.toSl, RV.toD, RV.out, RV.tru, mOrT, mSl, mPart, mNoP, dInt, dSl, fLen, fInt, fAbs, fList, fTuple, seqOf, sqOf, sFor, mRng1, mRng2, rng1, rng2, mEnum, enum1, mZip, zip2, lstOf, tgN, tgT, tgNs, mYes, mM0, mM1, mRevS, revS, mRevL, revL, dIn, dNotIn, mStore, lstAt, putAt, ixD, ixN, sSub, mApp, mListS, listS, mItS, strOf, mItA, lstOr, mItL, mItT, tupOf, mSSet, dSSet, mDef, sAug, dAddI, dSubI, SZ, M.alt, mGet2, isDic, dGetOr, dGet, mDNew, sDput, chkD, putD, sAsg, fLenD, mChain, dCount, e_in_order, ep, e]
/-! ### ones_of -/
theorem ones_spec {s : List Nat} {S : Store} (h : RowL s) (hl : s.length < 4000) : m_ones_of [.str s] S = .ok (.own ((lettersL s).map fun c => .tup [.str [c], .int (n1 c (plainL s) : Nat)])) S := by
  have ep := plain_spec (S := S) h (by omega)
  have el := letters_spec (S := S) h hl
  have hcount : ∀ c, Txt.count (mkS (plainL s)) (mkS [c]) = (n1 c (plainL s) : Nat) := fun c => by
    have := count_cnt (mkS (plainL s)) c
    rw [mkS_toList] at this
    show Txt.count (mkS (plainL s)) ⟨#[c]⟩ = _
    rw [this]
    have key : ∀ p : List Nat, cnt c p = ((p.count c : Nat) : Int) := fun p => by
      induction p with
      | nil => rfl
      | cons d r ih =>
        rw [cnt_cons, List.count_cons, ih]
        by_cases q : d = c
        · subst q; simp; omega
        · have : (d == c) = false := by simp [q]
          simp [q, this]
    rw [key, n1_count]
  obtain ⟨ρ', e5, hw⟩ := lcL_map (vs := [2]) (mt := tgN 2) (tt := mYes) (te := p_ones_of_1) (fun d => match d with | .str [c] => .tup [.str [c], .int (n1 c (plainL s) : Nat)] | d => d) (signs1 (lettersL s)) [.val (.str s), .val (.str (plainL s)), .un] S (by
    intro d hd ρ0 h0
    obtain ⟨c, hc, rfl⟩ := List.mem_map.mp hd
    rw [h0]
    refine ⟨[.val (.str s), .val (.str (plainL s)), .val (.str [c])], [.val (.str s), .val (.str (plainL s)), .val (.str [c])], [.val (.str s), .val (.str (plainL s)), .val (.str [c])], rfl, rfl, ?_, rfl⟩
    unfold p_ones_of_1
    simp [sSeq, sNil, sIf, sRet, sRetN, sSet, sPut, sDrop, sPars, rNil, rCons, putRVs, mIf, M.bind, M.ret, M.opt, M.look, M.looks, M.frz, M.vl, M.cel, mCmp, mB, mBl, dBl, mTru, dTru, mNot, mAnd, mOr, mAndV, mOrV, mNotV, mNil, mCons, mTup, mLst, mOp, mOpV, mPk, mK, mC, mVar, Pk.get, Pk.gets, Sl.view, view, mKNil, mKCons, mCallB, mCall0, mCallK, permL, dIx, atD, dAdd, dSub, dMod, dFdiv, dNeg, mNeg, dGt, dLt, dGe, dLe, dEq, dNe, RV.toSl, RV.toD, RV.out, RV.tru, mOrT, mSl, mPart, mNoP, dInt, dSl, fLen, fInt, fAbs, fList, fTuple, seqOf, sqOf, sFor, mRng1, mRng2, rng1, rng2, mEnum, enum1, mZip, zip2, lstOf, tgN, tgT, tgNs, mYes, mM0, mM1, mRevS, revS, mRevL, revL, dIn, dNotIn, mStore, lstAt, putAt, ixD, ixN, sSub, mApp, mListS, listS, mItS, strOf, mItA, lstOr, mItL, mItT, tupOf, mSSet, dSSet, mDef, sAug, dAddI, dSubI, SZ, M.alt, mGet2, isDic, dGetOr, dGet, mDNew, sDput, chkD, putD, sAsg, fLenD, mChain, dCount, dCount, hcount])
  have em : (signs1 (lettersL s)).map (fun d => match d with | .str [c] => D.tup [.str [c], .int (n1 c (plainL s) : Nat)] | d => d) = (lettersL s).map fun c => .tup [.str [c], .int (n1 c (plainL s) : Nat)] := by
    unfold signs1
    rw [List.map_map]
    rfl
  rw [em] at e5
  have hlen : (lettersL s).length < 10000000 := by
    have := srtD_len (s.map lo1)
    rw [List.length_map] at this
    unfold lettersL; omega
  unfold m_ones_of
  simp [sSeq, sNil, sIf, sRet, sRetN, sSet, sPut, sDrop, sPars, rNil, rCons, putRVs, mIf, M.bind, M.ret, M.opt, M.look, M.looks, M.frz, M.vl, M.cel, mCmp, mB, mBl, dBl, mTru, dTru, mNot, mAnd, mOr, mAndV, mOrV, mNotV, mNil, mCons, mTup, mLst, mOp, mOpV, mPk, mK, mC, mVar, Pk.get, Pk.gets, Sl.view, view, mKNil, mKCons, mCallB, mCall0, mCallK, permL, dIx, atD, dAdd, dSub, dMod, dFdiv, dNeg, mNeg, dGt, dLt, dGe, dLe, dEq, dNe, RV.toSl, RV.toD, RV.out, RV.tru, mOrT, mSl, mPart, mNoP, dInt, dSl, fLen, fInt, fAbs, fList, fTuple, seqOf, sqOf, sFor, mRng1, mRng2, rng1, rng2, mEnum, enum1, mZip, zip2, lstOf, tgN, tgT, tgNs, mYes, mM0, mM1, mRevS, revS, mRevL, revL, dIn, dNotIn, mStore, lstAt, putAt, ixD, ixN, sSub, mApp, mListS, listS, mItS, strOf, mItA, lstOr, mItL, mItT, tupOf, mSSet, dSSet, mDef, sAug, dAddI, dSubI, SZ, M.alt, mGet2, isDic, dGetOr, dGet, mDNew, sDput, chkD, putD, sAsg, fLenD, mChain, dCount, e_ones_of, ep, el, mLC, signs1, hlen]
  have e6 : lcL [2] (tgN 2) (M.ret true) p_ones_of_1 (List.map (fun c => D.str [c]) (lettersL s)) [Sl.val (D.str s), Sl.val (D.str (plainL s)), Sl.un] S = Res.ok (List.map (fun c => D.tup [D.str [c], D.int (n1 c (plainL s) : Nat)]) (lettersL s)) ρ' S := e5
  rw [e6]
theorem letters_len {s : List Nat} (h : RowL s) : (lettersL s).length ≤ 8 := by
  rw [← letters_filter h]
  exact List.length_filter_le _ _
theorem letters_asc (s : List Nat) : (lettersL s).Pairwise (· < ·) := srtD_pw _
theorem strLt_one (x y : Nat) : strLt [x] [y] = decide (x < y) := by
  unfold strLt
  exact decide_eq_decide.mpr lt_one
/-! ### pairs_of -/
def prD (g : List Nat → Int) (s : List Nat) : D := .tup [.str s, .int (g s)]
theorem ahead_step {x y c : Nat} {q : List Nat} (h : x < y) : n2 x y q + n1 x (q ++ [c]) * b2n (c == y) = n2 x y (q ++ [c]) := by
  rw [n2_snoc, n1_snoc, Nat.add_mul]
  have : b2n (c == x) * b2n (c == y) = 0 := by
    unfold b2n
    by_cases h1 : c = x
    · have h2 : ¬ c = y := by omega
      simp [h2]
    · simp [h1]
  omega
theorem pairs_in {s : List Nat} {x y : Nat} {xs : List D} {a5 a6 a7 : Sl} {S : Store} (h : RowL s) (hl : s.length < 1000000) (hx : xs.length < 10000000) :
    ∃ b5 b6 b7, p_pairs_of_2 [.val (.str s), .val (.str [x]), .own xs, .val (.str (lettersL s)), .val (.str [y]), a5, a6, a7] S = .ok .nx [.val (.str s), .val (.str [x]), .own (if x < y then xs ++ [prD (g2 (plainL s)) [x, y]] else xs), .val (.str (lettersL s)), .val (.str [y]), b5, b6, b7] S := by
  have ep := plain_spec (S := S) h hl
  by_cases hxy : x < y
  · rw [if_pos hxy]
    obtain ⟨ρ', S', e, ⟨sl, rfl⟩, rfl⟩ := forL_pre0 (tg := tgN 5) (body := p_pairs_of_1) chD (fun q ρ S1 => (∃ sl, ρ = [.val (.str s), .val (.str [x]), .own xs, .val (.str (lettersL s)), .val (.str [y]), sl, .val (.int (n1 x q : Nat)), .val (.int (n2 x y q : Nat))]) ∧ S1 = S) (plainL s)
      [.val (.str s), .val (.str [x]), .own xs, .val (.str (lettersL s)), .val (.str [y]), a5, .val (.int 0), .val (.int 0)] S ⟨⟨a5, rfl⟩, rfl⟩ (by
      rintro q c r hq ρ S1 ⟨⟨sl, rfl⟩, rfl⟩
      refine ⟨[.val (.str s), .val (.str [x]), .own xs, .val (.str (lettersL s)), .val (.str [y]), .val (.str [c]), .val (.int (n1 x q : Nat)), .val (.int (n2 x y q : Nat))], S1, .nx, _, S1, rfl, ?_, .inl rfl, ⟨.val (.str [c]), rfl⟩, rfl⟩
      rw [← ahead_step hxy, n1_snoc]
      unfold p_pairs_of_1
      simp [sSeq, sNil, sIf, sRet, sRetN, sSet, sPut, sDrop, sPars, rNil, rCons, putRVs, mIf, M.bind, M.ret, M.opt, M.look, M.looks, M.frz, M.vl, M.cel, mCmp, mB, mBl, dBl, mTru, dTru, mNot, mAnd, mOr, mAndV, mOrV, mNotV, mNil, mCons, mTup, mLst, mOp, mOpV, mPk, mK, mC, mVar, Pk.get, Pk.gets, Sl.view, view, mKNil, mKCons, mCallB, mCall0, mCallK, permL, dIx, atD, dAdd, dSub, dMod, dFdiv, dNeg, mNeg, dGt, dLt, dGe, dLe, dEq, dNe, RV.toSl, RV.toD, RV.out, RV.tru, mOrT, mSl, mPart, mNoP, dInt, dSl, fLen, fInt, fAbs, fList, fTuple, seqOf, sqOf, sFor, mRng1, mRng2, rng1, rng2, mEnum, enum1, mZip, zip2, lstOf, tgN, tgT, tgNs, mYes, mM0, mM1, mRevS, revS, mRevL, revL, dIn, dNotIn, mStore, lstAt, putAt, ixD, ixN, sSub, mApp, mListS, listS, mItS, strOf, mItA, lstOr, mItL, mItT, tupOf, mSSet, dSSet, mDef, sAug, dAddI, dSubI, SZ, M.alt, mGet2, isDic, dGetOr, dGet, mDNew, sDput, chkD, putD, sAsg, fLenD, mChain, dCount, dMul_if, b2n_eq, int_if])
    have e' : forL (tgN 5) p_pairs_of_1 (List.map (fun c => D.str [c]) (plainL s)) [Sl.val (D.str s), Sl.val (D.str [x]), Sl.own xs, Sl.val (D.str (lettersL s)), Sl.val (D.str [y]), a5, Sl.val (D.int 0), Sl.val (D.int 0)] S' = _ := e
    refine ⟨sl, .val (.int (n1 x (plainL s) : Nat)), .val (.int (n2 x y (plainL s) : Nat)), ?_⟩
    unfold p_pairs_of_2
    simp [sSeq, sNil, sIf, sRet, sRetN, sSet, sPut, sDrop, sPars, rNil, rCons, putRVs, mIf, M.bind, M.ret, M.opt, M.look, M.looks, M.frz, M.vl, M.cel, mCmp, mB, mBl, dBl, mTru, dTru, mNot, mAnd, mOr, mAndV, mOrV, mNotV, mNil, mCons, mTup, mLst, mOp, mOpV, mPk, mK, mC, mVar, Pk.get, Pk.gets, Sl.view, view, mKNil, mKCons, mCallB, mCall0, mCallK, permL, dIx, atD, dAdd, dSub, dMod, dFdiv, dNeg, mNeg, dGt, dLt, dGe, dLe, dEq, dNe, RV.toSl, RV.toD, RV.out, RV.tru, mOrT, mSl, mPart, mNoP, dInt, dSl, fLen, fInt, fAbs, fList, fTuple, seqOf, sqOf, sFor, mRng1, mRng2, rng1, rng2, mEnum, enum1, mZip, zip2, lstOf, tgN, tgT, tgNs, mYes, mM0, mM1, mRevS, revS, mRevL, revL, dIn, dNotIn, mStore, lstAt, putAt, ixD, ixN, sSub, mApp, mListS, listS, mItS, strOf, mItA, lstOr, mItL, mItT, tupOf, mSSet, dSSet, mDef, sAug, dAddI, dSubI, SZ, M.alt, mGet2, isDic, dGetOr, dGet, mDNew, sDput, chkD, putD, sAsg, fLenD, mChain, dCount, strLt_one, dLt, hxy, ep, e', hx, prD, g2]
  · rw [if_neg hxy]
    refine ⟨a5, a6, a7, ?_⟩
    unfold p_pairs_of_2
    simp [sSeq, sNil, sIf, sRet, sRetN, sSet, sPut, sDrop, sPars, rNil, rCons, putRVs, mIf, M.bind, M.ret, M.opt, M.look, M.looks, M.frz, M.vl, M.cel, mCmp, mB, mBl, dBl, mTru, dTru, mNot, mAnd, mOr, mAndV, mOrV, mNotV, mNil, mCons, mTup, mLst, mOp, mOpV, mPk, mK, mC, mVar, Pk.get, Pk.gets, Sl.view, view, mKNil, mKCons, mCallB, mCall0, mCallK, permL, dIx, atD, dAdd, dSub, dMod, dFdiv, dNeg, mNeg, dGt, dLt, dGe, dLe, dEq, dNe, RV.toSl, RV.toD, RV.out, RV.tru, mOrT, mSl, mPart, mNoP, dInt, dSl, fLen, fInt, fAbs, fList, fTuple, seqOf, sqOf, sFor, mRng1, mRng2, rng1, rng2, mEnum, enum1, mZip, zip2, lstOf, tgN, tgT, tgNs, mYes, mM0, mM1, mRevS, revS, mRevL, revL, dIn, dNotIn, mStore, lstAt, putAt, ixD, ixN, sSub, mApp, mListS, listS, mItS, strOf, mItA, lstOr, mItL, mItT, tupOf, mSSet, dSSet, mDef, sAug, dAddI, dSubI, SZ, M.alt, mGet2, isDic, dGetOr, dGet, mDNew, sDput, chkD, putD, sAsg, fLenD, mChain, dCount, strLt_one, dLt, hxy]
def row2 (f : List Nat → D) (x : Nat) (r : List Nat) : List D := (r.filter fun y => decide (x < y)).map fun y => f [x, y]
theorem row2_snoc {f : List Nat → D} {x c : Nat} {q : List Nat} : row2 f x (q ++ [c]) = if x < c then row2 f x q ++ [f [x, c]] else row2 f x q := by
  unfold row2
  rw [List.filter_append]
  by_cases h : x < c
  · simp [h]
  · simp [h]
theorem row2_len {f : List Nat → D} {x : Nat} {q : List Nat} : (row2 f x q).length ≤ q.length := by
  unfold row2
  rw [List.length_map]
  exact List.length_filter_le _ _
theorem names2_map {f : List Nat → D} {ls : List Nat} : (names2 ls).map f = ls.flatMap fun x => row2 f x ls := by
  unfold names2 row2
  rw [List.map_flatMap]
  congr 1
  funext x
  rw [List.map_map]
  rfl
theorem pairs_mid {s : List Nat} {x : Nat} {xs : List D} {a4 a5 a6 a7 : Sl} {S : Store} (h : RowL s) (hl : s.length < 1000000) (hx : xs.length < 1000000) :
    ∃ b4 b5 b6 b7, p_pairs_of_3 [.val (.str s), .val (.str [x]), .own xs, .val (.str (lettersL s)), a4, a5, a6, a7] S = .ok .nx [.val (.str s), .val (.str [x]), .own (xs ++ row2 (prD (g2 (plainL s))) x (lettersL s)), .val (.str (lettersL s)), b4, b5, b6, b7] S := by
  have h8 := letters_len h
  obtain ⟨ρ', S', e, ⟨b4, b5, b6, b7, rfl⟩, rfl⟩ := forL_pre0 (tg := tgN 4) (body := p_pairs_of_2) chD (fun q ρ S1 => (∃ b4 b5 b6 b7, ρ = [.val (.str s), .val (.str [x]), .own (xs ++ row2 (prD (g2 (plainL s))) x q), .val (.str (lettersL s)), b4, b5, b6, b7]) ∧ S1 = S) (lettersL s)
    [.val (.str s), .val (.str [x]), .own xs, .val (.str (lettersL s)), a4, a5, a6, a7] S ⟨⟨a4, a5, a6, a7, by simp [row2]⟩, rfl⟩ (by
    rintro q c r hq ρ S1 ⟨⟨b4, b5, b6, b7, rfl⟩, rfl⟩
    have hq2 : q.length ≤ 8 := by
      have := congrArg List.length hq
      simp at this; omega
    obtain ⟨c5, c6, c7, e⟩ := pairs_in (s := s) (x := x) (y := c) (xs := xs ++ row2 (prD (g2 (plainL s))) x q) (a5 := b5) (a6 := b6) (a7 := b7) (S := S1) h hl (by
      have := row2_len (f := prD (g2 (plainL s))) (x := x) (q := q)
      rw [List.length_append]; omega)
    refine ⟨_, S1, .nx, _, S1, rfl, e, .inl rfl, ⟨.val (.str [c]), c5, c6, c7, ?_⟩, rfl⟩
    rw [row2_snoc]
    split <;> simp)
  refine ⟨b4, b5, b6, b7, ?_⟩
  unfold p_pairs_of_3
  simp [sSeq, sNil, sIf, sRet, sRetN, sSet, sPut, sDrop, sPars, rNil, rCons, putRVs, mIf, M.bind, M.ret, M.opt, M.look, M.looks, M.frz, M.vl, M.cel, mCmp, mB, mBl, dBl, mTru, dTru, mNot, mAnd, mOr, mAndV, mOrV, mNotV, mNil, mCons, mTup, mLst, mOp, mOpV, mPk, mK, mC, mVar, Pk.get, Pk.gets, Sl.view, view, mKNil, mKCons, mCallB, mCall0, mCallK, permL, dIx, atD, dAdd, dSub, dMod, dFdiv, dNeg, mNeg, dGt, dLt, dGe, dLe, dEq, dNe, RV.toSl, RV.toD, RV.out, RV.tru, mOrT, mSl, mPart, mNoP, dInt, dSl, fLen, fInt, fAbs, fList, fTuple, seqOf, sqOf, sFor, mRng1, mRng2, rng1, rng2, mEnum, enum1, mZip, zip2, lstOf, tgN, tgT, tgNs, mYes, mM0, mM1, mRevS, revS, mRevL, revL, dIn, dNotIn, mStore, lstAt, putAt, ixD, ixN, sSub, mApp, mListS, listS, mItS, strOf, mItA, lstOr, mItL, mItT, tupOf, mSSet, dSSet, mDef, sAug, dAddI, dSubI, SZ, M.alt, mGet2, isDic, dGetOr, dGet, mDNew, sDput, chkD, putD, sAsg, fLenD, mChain, dCount]
  exact e
theorem pairs_spec {s : List Nat} {S : Store} (h : RowL s) (hl : s.length < 4000) : m_pairs_of [.str s] S = .ok (.own ((names2 (lettersL s)).map (prD (g2 (plainL s))))) S := by
  have h8 := letters_len h
  have el := letters_spec (S := S) h hl
  obtain ⟨ρ', S', e, ⟨b1, b4, b5, b6, b7, rfl⟩, hlen, rfl⟩ := forL_pre0 (tg := tgN 1) (body := p_pairs_of_3) chD (fun q ρ S1 => (∃ b1 b4 b5 b6 b7, ρ = [.val (.str s), b1, .own (q.flatMap fun x => row2 (prD (g2 (plainL s))) x (lettersL s)), .val (.str (lettersL s)), b4, b5, b6, b7]) ∧ (q.flatMap fun x => row2 (prD (g2 (plainL s))) x (lettersL s)).length ≤ 8 * q.length ∧ S1 = S) (lettersL s)
    [.val (.str s), .un, .own [], .val (.str (lettersL s)), .un, .un, .un, .un] S ⟨⟨.un, .un, .un, .un, .un, rfl⟩, Nat.zero_le _, rfl⟩ (by
    rintro q c r hq ρ S1 ⟨⟨b1, b4, b5, b6, b7, rfl⟩, hlen, rfl⟩
    have hq2 : q.length ≤ 8 := by
      have := congrArg List.length hq
      simp at this; omega
    obtain ⟨c4, c5, c6, c7, e⟩ := pairs_mid (s := s) (x := c) (xs := q.flatMap fun x => row2 (prD (g2 (plainL s))) x (lettersL s)) (a4 := b4) (a5 := b5) (a6 := b6) (a7 := b7) (S := S1) h (by omega) (by omega)
    refine ⟨_, S1, .nx, _, S1, rfl, e, .inl rfl, ⟨.val (.str [c]), c4, c5, c6, c7, ?_⟩, ?_, rfl⟩
    · rw [List.flatMap_append]; simp
    · have := row2_len (f := prD (g2 (plainL s))) (x := c) (q := lettersL s)
      rw [List.flatMap_append]
      simp; simp at hlen; omega)
  rw [names2_map]
  unfold m_pairs_of
  simp [sSeq, sNil, sIf, sRet, sRetN, sSet, sPut, sDrop, sPars, rNil, rCons, putRVs, mIf, M.bind, M.ret, M.opt, M.look, M.looks, M.frz, M.vl, M.cel, mCmp, mB, mBl, dBl, mTru, dTru, mNot, mAnd, mOr, mAndV, mOrV, mNotV, mNil, mCons, mTup, mLst, mOp, mOpV, mPk, mK, mC, mVar, Pk.get, Pk.gets, Sl.view, view, mKNil, mKCons, mCallB, mCall0, mCallK, permL, dIx, atD, dAdd, dSub, dMod, dFdiv, dNeg, mNeg, dGt, dLt, dGe, dLe, dEq, dNe, RV.toSl, RV.toD, RV.out, RV.tru, mOrT, mSl, mPart, mNoP, dInt, dSl, fLen, fInt, fAbs, fList, fTuple, seqOf, sqOf, sFor, mRng1, mRng2, rng1, rng2, mEnum, enum1, mZip, zip2, lstOf, tgN, tgT, tgNs, mYes, mM0, mM1, mRevS, revS, mRevL, revL, dIn, dNotIn, mStore, lstAt, putAt, ixD, ixN, sSub, mApp, mListS, listS, mItS, strOf, mItA, lstOr, mItL, mItT, tupOf, mSSet, dSSet, mDef, sAug, dAddI, dSubI, SZ, M.alt, mGet2, isDic, dGetOr, dGet, mDNew, sDput, chkD, putD, sAsg, fLenD, mChain, dCount, e_pairs_of, el]
  rw [e]
  rfl
/-! ### threes_of -/
def row3 (f : List Nat → D) (x y : Nat) (r : List Nat) : List D := (r.filter fun z => decide (x < y) && decide (y < z)).map fun z => f [x, y, z]
theorem row3_snoc {f : List Nat → D} {x y c : Nat} {q : List Nat} : row3 f x y (q ++ [c]) = if x < y ∧ y < c then row3 f x y q ++ [f [x, y, c]] else row3 f x y q := by
  unfold row3
  rw [List.filter_append]
  by_cases h : x < y ∧ y < c
  · simp [h]
  · have : (decide (x < y) && decide (y < c)) = false := by
      rw [← Bool.not_eq_true, Bool.and_eq_true, decide_eq_true_eq, decide_eq_true_eq]; exact h
    rw [List.filter_cons_of_neg (by rw [this]; simp), List.filter_nil, List.append_nil, if_neg h]
theorem row3_len {f : List Nat → D} {x y : Nat} {q : List Nat} : (row3 f x y q).length ≤ q.length := by
  unfold row3
  rw [List.length_map]
  exact List.length_filter_le _ _
theorem names3_map {f : List Nat → D} {ls : List Nat} : (names3 ls).map f = ls.flatMap fun x => ls.flatMap fun y => row3 f x y ls := by
  unfold names3 row3
  rw [List.map_flatMap]
  congr 1
  funext x
  rw [List.map_flatMap]
  congr 1
  funext y
  rw [List.map_map]
  rfl
theorem threes_in {s : List Nat} {x y z : Nat} {xs : List D} {a6 : Sl} {S : Store} (h : RowL s) (hl : s.length < 1000000) (hx : xs.length < 10000000) :
    ∃ b6, p_threes_of_1 [.val (.str s), .val (.str [x]), .own xs, .val (.str (lettersL s)), .val (.str [y]), .val (.str [z]), a6] S = .ok .nx [.val (.str s), .val (.str [x]), .own (if x < y ∧ y < z then xs ++ [prD (g3 (plainL s)) [x, y, z]] else xs), .val (.str (lettersL s)), .val (.str [y]), .val (.str [z]), b6] S := by
  have e1 := order_spec (S := S) (x := x) (y := y) (z := z) h hl
  have e2 := order_spec (S := S) (x := y) (y := x) (z := z) h hl
  by_cases h1 : x < y
  · by_cases h2 : y < z
    · rw [if_pos ⟨h1, h2⟩]
      refine ⟨.val (.int ((n3 x y z (plainL s) : Nat) - (n3 y x z (plainL s) : Nat))), ?_⟩
      unfold p_threes_of_1
      simp [sSeq, sNil, sIf, sRet, sRetN, sSet, sPut, sDrop, sPars, rNil, rCons, putRVs, mIf, M.bind, M.ret, M.opt, M.look, M.looks, M.frz, M.vl, M.cel, mCmp, mB, mBl, dBl, mTru, dTru, mNot, mAnd, mOr, mAndV, mOrV, mNotV, mNil, mCons, mTup, mLst, mOp, mOpV, mPk, mK, mC, mVar, Pk.get, Pk.gets, Sl.view, view, mKNil, mKCons, mCallB, mCall0, mCallK, permL, dIx, atD, dAdd, dSub, dMod, dFdiv, dNeg, mNeg, dGt, dLt, dGe, dLe, dEq, dNe, RV.toSl, RV.toD, RV.out, RV.tru, mOrT, mSl, mPart, mNoP, dInt, dSl, fLen, fInt, fAbs, fList, fTuple, seqOf, sqOf, sFor, mRng1, mRng2, rng1, rng2, mEnum, enum1, mZip, zip2, lstOf, tgN, tgT, tgNs, mYes, mM0, mM1, mRevS, revS, mRevL, revL, dIn, dNotIn, mStore, lstAt, putAt, ixD, ixN, sSub, mApp, mListS, listS, mItS, strOf, mItA, lstOr, mItL, mItT, tupOf, mSSet, dSSet, mDef, sAug, dAddI, dSubI, SZ, M.alt, mGet2, isDic, dGetOr, dGet, mDNew, sDput, chkD, putD, sAsg, fLenD, mChain, dCount, mChain, strLt_one, dLt, h1, h2, e1, e2, hx, prD, g3]
    · rw [if_neg (fun q => h2 q.2)]
      refine ⟨a6, ?_⟩
      unfold p_threes_of_1
      simp [sSeq, sNil, sIf, sRet, sRetN, sSet, sPut, sDrop, sPars, rNil, rCons, putRVs, mIf, M.bind, M.ret, M.opt, M.look, M.looks, M.frz, M.vl, M.cel, mCmp, mB, mBl, dBl, mTru, dTru, mNot, mAnd, mOr, mAndV, mOrV, mNotV, mNil, mCons, mTup, mLst, mOp, mOpV, mPk, mK, mC, mVar, Pk.get, Pk.gets, Sl.view, view, mKNil, mKCons, mCallB, mCall0, mCallK, permL, dIx, atD, dAdd, dSub, dMod, dFdiv, dNeg, mNeg, dGt, dLt, dGe, dLe, dEq, dNe, RV.toSl, RV.toD, RV.out, RV.tru, mOrT, mSl, mPart, mNoP, dInt, dSl, fLen, fInt, fAbs, fList, fTuple, seqOf, sqOf, sFor, mRng1, mRng2, rng1, rng2, mEnum, enum1, mZip, zip2, lstOf, tgN, tgT, tgNs, mYes, mM0, mM1, mRevS, revS, mRevL, revL, dIn, dNotIn, mStore, lstAt, putAt, ixD, ixN, sSub, mApp, mListS, listS, mItS, strOf, mItA, lstOr, mItL, mItT, tupOf, mSSet, dSSet, mDef, sAug, dAddI, dSubI, SZ, M.alt, mGet2, isDic, dGetOr, dGet, mDNew, sDput, chkD, putD, sAsg, fLenD, mChain, dCount, mChain, strLt_one, dLt, h1, h2]
  · rw [if_neg (fun q => h1 q.1)]
    refine ⟨a6, ?_⟩
    unfold p_threes_of_1
    simp [sSeq, sNil, sIf, sRet, sRetN, sSet, sPut, sDrop, sPars, rNil, rCons, putRVs, mIf, M.bind, M.ret, M.opt, M.look, M.looks, M.frz, M.vl, M.cel, mCmp, mB, mBl, dBl, mTru, dTru, mNot, mAnd, mOr, mAndV, mOrV, mNotV, mNil, mCons, mTup, mLst, mOp, mOpV, mPk, mK, mC, mVar, Pk.get, Pk.gets, Sl.view, view, mKNil, mKCons, mCallB, mCall0, mCallK, permL, dIx, atD, dAdd, dSub, dMod, dFdiv, dNeg, mNeg, dGt, dLt, dGe, dLe, dEq, dNe, RV.toSl, RV.toD, RV.out, RV.tru, mOrT, mSl, mPart, mNoP, dInt, dSl, fLen, fInt, fAbs, fList, fTuple, seqOf, sqOf, sFor, mRng1, mRng2, rng1, rng2, mEnum, enum1, mZip, zip2, lstOf, tgN, tgT, tgNs, mYes, mM0, mM1, mRevS, revS, mRevL, revL, dIn, dNotIn, mStore, lstAt, putAt, ixD, ixN, sSub, mApp, mListS, listS, mItS, strOf, mItA, lstOr, mItL, mItT, tupOf, mSSet, dSSet, mDef, sAug, dAddI, dSubI, SZ, M.alt, mGet2, isDic, dGetOr, dGet, mDNew, sDput, chkD, putD, sAsg, fLenD, mChain, dCount, mChain, strLt_one, dLt, h1]
theorem threes_mid {s : List Nat} {x y : Nat} {xs : List D} {a5 a6 : Sl} {S : Store} (h : RowL s) (hl : s.length < 1000000) (hx : xs.length < 1000000) :
    ∃ b5 b6, p_threes_of_2 [.val (.str s), .val (.str [x]), .own xs, .val (.str (lettersL s)), .val (.str [y]), a5, a6] S = .ok .nx [.val (.str s), .val (.str [x]), .own (xs ++ row3 (prD (g3 (plainL s))) x y (lettersL s)), .val (.str (lettersL s)), .val (.str [y]), b5, b6] S := by
  have h8 := letters_len h
  obtain ⟨ρ', S', e, ⟨b5, b6, rfl⟩, rfl⟩ := forL_pre0 (tg := tgN 5) (body := p_threes_of_1) chD (fun q ρ S1 => (∃ b5 b6, ρ = [.val (.str s), .val (.str [x]), .own (xs ++ row3 (prD (g3 (plainL s))) x y q), .val (.str (lettersL s)), .val (.str [y]), b5, b6]) ∧ S1 = S) (lettersL s)
    [.val (.str s), .val (.str [x]), .own xs, .val (.str (lettersL s)), .val (.str [y]), a5, a6] S ⟨⟨a5, a6, by simp [row3]⟩, rfl⟩ (by
    rintro q c r hq ρ S1 ⟨⟨b5, b6, rfl⟩, rfl⟩
    have hq2 : q.length ≤ 8 := by
      have := congrArg List.length hq
      simp at this; omega
    obtain ⟨c6, e⟩ := threes_in (s := s) (x := x) (y := y) (z := c) (xs := xs ++ row3 (prD (g3 (plainL s))) x y q) (a6 := b6) (S := S1) h hl (by
      have := row3_len (f := prD (g3 (plainL s))) (x := x) (y := y) (q := q)
      rw [List.length_append]; omega)
    refine ⟨_, S1, .nx, _, S1, rfl, e, .inl rfl, ⟨.val (.str [c]), c6, ?_⟩, rfl⟩
    rw [row3_snoc]
    split <;> simp)
  refine ⟨b5, b6, ?_⟩
  unfold p_threes_of_2
  simp [sSeq, sNil, sIf, sRet, sRetN, sSet, sPut, sDrop, sPars, rNil, rCons, putRVs, mIf, M.bind, M.ret, M.opt, M.look, M.looks, M.frz, M.vl, M.cel, mCmp, mB, mBl, dBl, mTru, dTru, mNot, mAnd, mOr, mAndV, mOrV, mNotV, mNil, mCons, mTup, mLst, mOp, mOpV, mPk, mK, mC, mVar, Pk.get, Pk.gets, Sl.view, view, mKNil, mKCons, mCallB, mCall0, mCallK, permL, dIx, atD, dAdd, dSub, dMod, dFdiv, dNeg, mNeg, dGt, dLt, dGe, dLe, dEq, dNe, RV.toSl, RV.toD, RV.out, RV.tru, mOrT, mSl, mPart, mNoP, dInt, dSl, fLen, fInt, fAbs, fList, fTuple, seqOf, sqOf, sFor, mRng1, mRng2, rng1, rng2, mEnum, enum1, mZip, zip2, lstOf, tgN, tgT, tgNs, mYes, mM0, mM1, mRevS, revS, mRevL, revL, dIn, dNotIn, mStore, lstAt, putAt, ixD, ixN, sSub, mApp, mListS, listS, mItS, strOf, mItA, lstOr, mItL, mItT, tupOf, mSSet, dSSet, mDef, sAug, dAddI, dSubI, SZ, M.alt, mGet2, isDic, dGetOr, dGet, mDNew, sDput, chkD, putD, sAsg, fLenD, mChain, dCount]
  exact e
theorem threes_out {s : List Nat} {x : Nat} {xs : List D} {a4 a5 a6 : Sl} {S : Store} (h : RowL s) (hl : s.length < 1000000) (hx : xs.length < 100000) :
    ∃ b4 b5 b6, p_threes_of_3 [.val (.str s), .val (.str [x]), .own xs, .val (.str (lettersL s)), a4, a5, a6] S = .ok .nx [.val (.str s), .val (.str [x]), .own (xs ++ (lettersL s).flatMap fun y => row3 (prD (g3 (plainL s))) x y (lettersL s)), .val (.str (lettersL s)), b4, b5, b6] S ∧ ((lettersL s).flatMap fun y => row3 (prD (g3 (plainL s))) x y (lettersL s)).length ≤ 64 := by
  have h8 := letters_len h
  obtain ⟨ρ', S', e, ⟨b4, b5, b6, rfl⟩, hlen, rfl⟩ := forL_pre0 (tg := tgN 4) (body := p_threes_of_2) chD (fun q ρ S1 => (∃ b4 b5 b6, ρ = [.val (.str s), .val (.str [x]), .own (xs ++ q.flatMap fun y => row3 (prD (g3 (plainL s))) x y (lettersL s)), .val (.str (lettersL s)), b4, b5, b6]) ∧ (q.flatMap fun y => row3 (prD (g3 (plainL s))) x y (lettersL s)).length ≤ 8 * q.length ∧ S1 = S) (lettersL s)
    [.val (.str s), .val (.str [x]), .own xs, .val (.str (lettersL s)), a4, a5, a6] S ⟨⟨a4, a5, a6, by simp⟩, Nat.zero_le _, rfl⟩ (by
    rintro q c r hq ρ S1 ⟨⟨b4, b5, b6, rfl⟩, hlen, rfl⟩
    have hq2 : q.length ≤ 8 := by
      have := congrArg List.length hq
      simp at this; omega
    obtain ⟨c5, c6, e⟩ := threes_mid (s := s) (x := x) (y := c) (xs := xs ++ q.flatMap fun y => row3 (prD (g3 (plainL s))) x y (lettersL s)) (a5 := b5) (a6 := b6) (S := S1) h hl (by
      rw [List.length_append]; omega)
    refine ⟨_, S1, .nx, _, S1, rfl, e, .inl rfl, ⟨.val (.str [c]), c5, c6, ?_⟩, ?_, rfl⟩
    · rw [List.flatMap_append]; simp
    · have := row3_len (f := prD (g3 (plainL s))) (x := x) (y := c) (q := lettersL s)
      rw [List.flatMap_append]
      simp; simp at hlen; omega)
  refine ⟨b4, b5, b6, ?_, by omega⟩
  unfold p_threes_of_3
  simp [sSeq, sNil, sIf, sRet, sRetN, sSet, sPut, sDrop, sPars, rNil, rCons, putRVs, mIf, M.bind, M.ret, M.opt, M.look, M.looks, M.frz, M.vl, M.cel, mCmp, mB, mBl, dBl, mTru, dTru, mNot, mAnd, mOr, mAndV, mOrV, mNotV, mNil, mCons, mTup, mLst, mOp, mOpV, mPk, mK, mC, mVar, Pk.get, Pk.gets, Sl.view, view, mKNil, mKCons, mCallB, mCall0, mCallK, permL, dIx, atD, dAdd, dSub, dMod, dFdiv, dNeg, mNeg, dGt, dLt, dGe, dLe, dEq, dNe, RV.toSl, RV.toD, RV.out, RV.tru, mOrT, mSl, mPart, mNoP, dInt, dSl, fLen, fInt, fAbs, fList, fTuple, seqOf, sqOf, sFor, mRng1, mRng2, rng1, rng2, mEnum, enum1, mZip, zip2, lstOf, tgN, tgT, tgNs, mYes, mM0, mM1, mRevS, revS, mRevL, revL, dIn, dNotIn, mStore, lstAt, putAt, ixD, ixN, sSub, mApp, mListS, listS, mItS, strOf, mItA, lstOr, mItL, mItT, tupOf, mSSet, dSSet, mDef, sAug, dAddI, dSubI, SZ, M.alt, mGet2, isDic, dGetOr, dGet, mDNew, sDput, chkD, putD, sAsg, fLenD, mChain, dCount]
  exact e
theorem threes_spec {s : List Nat} {S : Store} (h : RowL s) (hl : s.length < 4000) : m_threes_of [.str s] S = .ok (.own ((names3 (lettersL s)).map (prD (g3 (plainL s))))) S := by
  have h8 := letters_len h
  have el := letters_spec (S := S) h hl
  obtain ⟨ρ', S', e, ⟨b1, b4, b5, b6, rfl⟩, hlen, rfl⟩ := forL_pre0 (tg := tgN 1) (body := p_threes_of_3) chD (fun q ρ S1 => (∃ b1 b4 b5 b6, ρ = [.val (.str s), b1, .own (q.flatMap fun x => (lettersL s).flatMap fun y => row3 (prD (g3 (plainL s))) x y (lettersL s)), .val (.str (lettersL s)), b4, b5, b6]) ∧ (q.flatMap fun x => (lettersL s).flatMap fun y => row3 (prD (g3 (plainL s))) x y (lettersL s)).length ≤ 64 * q.length ∧ S1 = S) (lettersL s)
    [.val (.str s), .un, .own [], .val (.str (lettersL s)), .un, .un, .un] S ⟨⟨.un, .un, .un, .un, rfl⟩, Nat.zero_le _, rfl⟩ (by
    rintro q c r hq ρ S1 ⟨⟨b1, b4, b5, b6, rfl⟩, hlen, rfl⟩
    have hq2 : q.length ≤ 8 := by
      have := congrArg List.length hq
      simp at this; omega
    obtain ⟨c4, c5, c6, e, hl2⟩ := threes_out (s := s) (x := c) (xs := q.flatMap fun x => (lettersL s).flatMap fun y => row3 (prD (g3 (plainL s))) x y (lettersL s)) (a4 := b4) (a5 := b5) (a6 := b6) (S := S1) h (by omega) (by omega)
    refine ⟨_, S1, .nx, _, S1, rfl, e, .inl rfl, ⟨.val (.str [c]), c4, c5, c6, ?_⟩, ?_, rfl⟩
    · rw [List.flatMap_append]; simp
    · rw [List.flatMap_append, List.length_append, List.flatMap_cons, List.flatMap_nil, List.append_nil, List.length_append, List.length_cons, List.length_nil]
      omega)
  rw [names3_map]
  unfold m_threes_of
  simp [sSeq, sNil, sIf, sRet, sRetN, sSet, sPut, sDrop, sPars, rNil, rCons, putRVs, mIf, M.bind, M.ret, M.opt, M.look, M.looks, M.frz, M.vl, M.cel, mCmp, mB, mBl, dBl, mTru, dTru, mNot, mAnd, mOr, mAndV, mOrV, mNotV, mNil, mCons, mTup, mLst, mOp, mOpV, mPk, mK, mC, mVar, Pk.get, Pk.gets, Sl.view, view, mKNil, mKCons, mCallB, mCall0, mCallK, permL, dIx, atD, dAdd, dSub, dMod, dFdiv, dNeg, mNeg, dGt, dLt, dGe, dLe, dEq, dNe, RV.toSl, RV.toD, RV.out, RV.tru, mOrT, mSl, mPart, mNoP, dInt, dSl, fLen, fInt, fAbs, fList, fTuple, seqOf, sqOf, sFor, mRng1, mRng2, rng1, rng2, mEnum, enum1, mZip, zip2, lstOf, tgN, tgT, tgNs, mYes, mM0, mM1, mRevS, revS, mRevL, revL, dIn, dNotIn, mStore, lstAt, putAt, ixD, ixN, sSub, mApp, mListS, listS, mItS, strOf, mItA, lstOr, mItL, mItT, tupOf, mSSet, dSSet, mDef, sAug, dAddI, dSubI, SZ, M.alt, mGet2, isDic, dGetOr, dGet, mDNew, sDput, chkD, putD, sAsg, fLenD, mChain, dCount, e_threes_of, el]
  rw [e]
  rfl
end Thr
namespace Thr
open PySem PySem.Spec PyProof.Rows L2 RZ Sh

/-! ### kept, form_of -/
def reD (f : List Nat → Int) (s : List Nat) : D := .tup [.str s, .int (f s % 3)]
def nz (f : List Nat → Int) (s : List Nat) : Bool := decide (f s % 3 ≠ 0)
def partD (f : List Nat → Int) (names : List (List Nat)) : D := .tup ((names.filter (nz f)).map (reD f))
def formP (p ls : List Nat) : D := .tup [partD (g1 p) (names1 ls), partD (g2 p) (names2 ls), partD (g3 p) (names3 ls)]
def formD (s : List Nat) : D := formP (plainL s) (lettersL s)
theorem srtT_asc : ∀ l : List Rw, l.Pairwise (fun a b => leK a.1 b.1) → srtT l = l
  | [], _ => rfl
  | x :: r, h => by
    obtain ⟨h1, h2⟩ := List.pairwise_cons.mp h
    unfold srtT
    rw [srtT_asc r h2]
    cases r with
    | nil => rfl
    | cons y r =>
      have := h1 y List.mem_cons_self
      unfold leK at this
      unfold insT
      rw [this]
      rfl
def keyP (f : List Nat → Int) (s : List Nat) : Rw := ([Sum.inr s, Sum.inl (f s % 3)], reD f s)
theorem rowsT_map (f : List Nat → Int) : ∀ l : List (List Nat), rowsT [true, false] (l.map (reD f)) = some (l.map (keyP f))
  | [] => rfl
  | s :: l => by
    rw [List.map_cons]
    unfold rowsT reD
    show (match keyS [true, false] [D.str s, D.int (f s % 3)], rowsT [true, false] (l.map (reD f)) with
      | some k, some l => some ((k, D.tup [D.str s, D.int (f s % 3)]) :: l)
      | _, _ => none) = _
    rw [rowsT_map f l]
    rfl
theorem leK_names {f : List Nat → Int} {a b : List Nat} (h : a < b) : leK (keyP f a).1 (keyP f b).1 := by
  unfold leK keyP
  unfold ltK
  rw [ltCps_eq, ltCps_eq, decide_eq_true h, decide_eq_false (fun z => List.lt_irrefl _ (List.lt_trans h z))]
  rfl
theorem sortT_names {f : List Nat → Int} {l : List (List Nat)} (h : l.Pairwise (· < ·)) : fSortT [.lst (l.map (reD f))] = some (.own (l.map (reD f))) := by
  unfold fSortT
  dsimp only
  have e0 : lstOf (.lst (l.map (reD f))) = some (l.map (reD f)) := rfl
  rw [e0]
  cases l with
  | nil => rfl
  | cons s l =>
    show (match shOfL ((s :: l).map (reD f)) with
      | [] => none
      | b :: sh => (rowsT (b :: sh) ((s :: l).map (reD f))).bind fun l => some (RV.own ((srtT l).map fun x : Rw => x.2))) = _
    have e1 : shOfL ((s :: l).map (reD f)) = [true, false] := rfl
    rw [e1]
    dsimp only
    rw [rowsT_map]
    show some (RV.own ((srtT ((s :: l).map (keyP f))).map (·.2))) = _
    rw [srtT_asc]
    · rw [List.map_map]; rfl
    · rw [List.pairwise_map]
      exact h.imp fun {a b} e => leK_names e
theorem kept_spec {f : List Nat → Int} {names : List (List Nat)} {S : Store} (h : names.Pairwise (· < ·)) (hl : names.length < 10000000) : m_kept [.lst (names.map (prD f))] S = .ok (.val (partD f names)) S := by
  obtain ⟨ρ', e5, hw⟩ := lcL_filter (vs := [1, 2]) (mt := tgT [1, 2]) (tt := p_kept_1) (te := p_kept_2) (fun d => match d with | .tup [.str s, .int n] => decide (n % 3 ≠ 0) | _ => false) (fun d => match d with | .tup [.str s, .int n] => .tup [.str s, .int (n % 3)] | d => d) (names.map (prD f)) [.val (.lst (names.map (prD f))), .un, .un] S (by
    intro d hd ρ0 h0
    obtain ⟨s, hs, rfl⟩ := List.mem_map.mp hd
    rw [h0]
    refine ⟨[.val (.lst (names.map (prD f))), .val (.str s), .val (.int (f s))], [.val (.lst (names.map (prD f))), .val (.str s), .val (.int (f s))], rfl, ?_, rfl, fun _ => ⟨[.val (.lst (names.map (prD f))), .val (.str s), .val (.int (f s))], ?_, rfl⟩⟩
    · unfold p_kept_1
      simp [sSeq, sNil, sIf, sRet, sRetN, sSet, sPut, sDrop, sPars, rNil, rCons, putRVs, mIf, M.bind, M.ret, M.opt, M.look, M.looks, M.frz, M.vl, M.cel, mCmp, mB, mBl, dBl, mTru, dTru, mNot, mAnd, mOr, mAndV, mOrV, mNotV, mNil, mCons, mTup, mLst, mOp, mOpV, mPk, mK, mC, mVar, Pk.get, Pk.gets, Sl.view, view, mKNil, mKCons, mCallB, mCall0, mCallK, permL, dIx, atD, dAdd, dSub, dMod, dFdiv, dNeg, mNeg, dGt, dLt, dGe, dLe, dEq, dNe, RV.toSl, RV.toD, RV.out, RV.tru, mOrT, mSl, mPart, mNoP, dInt, dSl, fLen, fInt, fAbs, fList, fTuple, seqOf, sqOf, sFor, mRng1, mRng2, rng1, rng2, mEnum, enum1, mZip, zip2, lstOf, tgN, tgT, tgNs, mYes, mM0, mM1, mRevS, revS, mRevL, revL, dIn, dNotIn, mStore, lstAt, putAt, ixD, ixN, sSub, mApp, mListS, listS, mItS, strOf, mItA, lstOr, mItL, mItT, tupOf, mSSet, dSSet, mDef, sAug, dAddI, dSubI, SZ, M.alt, mGet2, isDic, dGetOr, dGet, mDNew, sDput, chkD, putD, sAsg, fLenD, mChain, dCount, prD]
    · unfold p_kept_2
      simp [sSeq, sNil, sIf, sRet, sRetN, sSet, sPut, sDrop, sPars, rNil, rCons, putRVs, mIf, M.bind, M.ret, M.opt, M.look, M.looks, M.frz, M.vl, M.cel, mCmp, mB, mBl, dBl, mTru, dTru, mNot, mAnd, mOr, mAndV, mOrV, mNotV, mNil, mCons, mTup, mLst, mOp, mOpV, mPk, mK, mC, mVar, Pk.get, Pk.gets, Sl.view, view, mKNil, mKCons, mCallB, mCall0, mCallK, permL, dIx, atD, dAdd, dSub, dMod, dFdiv, dNeg, mNeg, dGt, dLt, dGe, dLe, dEq, dNe, RV.toSl, RV.toD, RV.out, RV.tru, mOrT, mSl, mPart, mNoP, dInt, dSl, fLen, fInt, fAbs, fList, fTuple, seqOf, sqOf, sFor, mRng1, mRng2, rng1, rng2, mEnum, enum1, mZip, zip2, lstOf, tgN, tgT, tgNs, mYes, mM0, mM1, mRevS, revS, mRevL, revL, dIn, dNotIn, mStore, lstAt, putAt, ixD, ixN, sSub, mApp, mListS, listS, mItS, strOf, mItA, lstOr, mItL, mItT, tupOf, mSSet, dSSet, mDef, sAug, dAddI, dSubI, SZ, M.alt, mGet2, isDic, dGetOr, dGet, mDNew, sDput, chkD, putD, sAsg, fLenD, mChain, dCount, prD])
  have em : ((names.map (prD f)).filter (fun d => match d with | .tup [.str s, .int n] => decide (n % 3 ≠ 0) | _ => false)).map (fun d => match d with | .tup [.str s, .int n] => .tup [.str s, .int (n % 3)] | d => d) = (names.filter (nz f)).map (reD f) := by
    rw [List.filter_map, List.map_map]
    rfl
  rw [em] at e5
  have e6 : mLC [1, 2] (mItA (mVar 0)) (tgT [1, 2]) p_kept_1 p_kept_2 [.val (.lst (names.map (prD f))), .un, .un] S = .ok (.own ((names.filter (nz f)).map (reD f))) [.val (.lst (names.map (prD f))), .un, .un] S := by
    unfold mLC M.bind
    have : mItA (mVar 0) [.val (.lst (names.map (prD f))), .un, .un] S = .ok (names.map (prD f)) [.val (.lst (names.map (prD f))), .un, .un] S := rfl
    rw [this]
    dsimp only
    rw [if_pos (by rw [List.length_map]; exact hl), e5]
    dsimp only
    rw [hw]
    rfl
  have e7 := sortT_names (f := f) (h.filter (nz f))
  unfold m_kept mDef e_kept
  simp [sRet, M.bind, M.vl, M.frz, mCallB, mKCons, mKNil, mK, M.ret, M.looks, Pk.gets, Pk.get, view, M.opt, RV.toD, e6, e7, fTuple, seqOf, RV.out, partD]
theorem names2_len {ls : List Nat} (h : ls.length ≤ 8) : (names2 ls).length ≤ 64 := by
  have : ∀ q : List Nat, (q.flatMap fun x => (ls.filter fun y => decide (x < y)).map fun y => [x, y]).length ≤ 8 * q.length := by
    intro q
    induction q with
    | nil => simp
    | cons c q ih =>
      rw [List.flatMap_cons, List.length_append, List.length_map, List.length_cons]
      have := List.length_filter_le (fun y => decide (c < y)) ls
      omega
  have := this ls
  unfold names2; omega
theorem names3_len {ls : List Nat} (h : ls.length ≤ 8) : (names3 ls).length ≤ 512 := by
  have h1 : ∀ (x : Nat) (q : List Nat), (q.flatMap fun y => (ls.filter fun z => decide (x < y) && decide (y < z)).map fun z => [x, y, z]).length ≤ 8 * q.length := by
    intro x q
    induction q with
    | nil => simp
    | cons c q ih =>
      rw [List.flatMap_cons, List.length_append, List.length_map, List.length_cons]
      have := List.length_filter_le (fun z => decide (x < c) && decide (c < z)) ls
      omega
  have h2 : ∀ q : List Nat, (q.flatMap fun x => ls.flatMap fun y => (ls.filter fun z => decide (x < y) && decide (y < z)).map fun z => [x, y, z]).length ≤ 64 * q.length := by
    intro q
    induction q with
    | nil => simp
    | cons c q ih =>
      rw [List.flatMap_cons, List.length_append, List.length_cons]
      have := h1 c ls
      omega
  have := h2 ls
  unfold names3; omega
theorem form_spec {s : List Nat} {S : Store} (h : RowL s) (hl : s.length < 4000) : m_form_of [.str s] S = .ok (.val (formD s)) S := by
  have h8 := letters_len h
  have ha := letters_asc s
  have l2 := names2_len h8
  have l3 := names3_len h8
  have o1 := ones_spec (S := S) h hl
  have o2 := pairs_spec (S := S) h hl
  have o3 := threes_spec (S := S) h hl
  have k1 := kept_spec (f := g1 (plainL s)) (S := S) (names1_asc ha) (by unfold names1; rw [List.length_map]; omega)
  have k2 := kept_spec (f := g2 (plainL s)) (S := S) (names2_asc ha) (by omega)
  have k3 := kept_spec (f := g3 (plainL s)) (S := S) (names3_asc ha) (by omega)
  have en : (names1 (lettersL s)).map (prD (g1 (plainL s))) = (lettersL s).map fun c => .tup [.str [c], .int (n1 c (plainL s) : Nat)] := by
    unfold names1
    rw [List.map_map]
    rfl
  rw [en] at k1
  unfold m_form_of mDef e_form_of
  simp [sRet, M.vl, mTup, mCons, mNil, M.bind, M.frz, mCall0, mVar, M.ret, RV.toD, RV.out, o1, o2, o3, k1, k2, k3, formD, formP, SZ]
end Thr
namespace Thr
open PySem PySem.Spec PyProof.Rows L2 RZ Sh

/-! ### mirrors, step by step -/
section
variable {ρ ρ1 ρ2 ρ3 : Env} {S S1 S2 : Store}
theorem b_ok {α β : Type} {m : M α} {f : α → M β} {a : α} (h : m ρ S = .ok a ρ1 S1) : (m.bind f) ρ S = f a ρ1 S1 := by unfold M.bind; rw [h]
theorem mk_ok {m : M D} {d : D} (h : m ρ S = .ok d ρ1 S1) : mK m ρ S = .ok (.val d) ρ1 S1 := by unfold mK; rw [b_ok h]; rfl
theorem pk_ok {i : Nat} {sl : Sl} {d : D} (h : ρ[i]? = some sl) (e : sl.view S = some d) : mPk i ρ S = .ok (.slot i) ρ S := by unfold mPk; rw [h]; dsimp only; rw [e]
theorem pg_ok {i : Nat} {sl : Sl} {d : D} (h : ρ[i]? = some sl) (e : sl.view S = some d) : Pk.get (.slot i) ρ S = some d := by unfold Pk.get; dsimp only; rw [h]; exact e
theorem frz_ok {m : M RV} {r : RV} (h : m ρ S = .ok r ρ1 S1) : M.frz m ρ S = .ok r.toD ρ1 S1 := by unfold M.frz; rw [b_ok h]; rfl
theorem vl_ok {m : M D} {d : D} (h : m ρ S = .ok d ρ1 S1) : M.vl m ρ S = .ok (.val d) ρ1 S1 := by unfold M.vl; rw [b_ok h]; rfl
theorem var_ok {i : Nat} {d : D} (h : ρ[i]? = some (.val d)) : mVar i ρ S = .ok d ρ S := by unfold mVar; rw [h]
theorem c_ok {d : D} : mC d ρ S = .ok d ρ S := rfl
theorem add_str {a b : List Nat} (h : a.length + b.length ≤ 16777216) : dAdd (.str a) (.str b) = some (.val (.str (a ++ b))) := by
  unfold dAdd
  dsimp only
  rw [if_pos (by rw [SZ_is]; exact h)]
theorem cmp_ok {f : D → D → Option Bool} {ma mb : M Pk} {p q : Pk} {x y : D} {b : Bool} (ha : ma ρ S = .ok p ρ1 S1) (hb : mb ρ1 S1 = .ok q ρ2 S2) (hp : p.get ρ2 S2 = some x) (hq : q.get ρ2 S2 = some y) (h : f x y = some b) : mCmp f ma mb ρ S = .ok b ρ2 S2 := by
  unfold mCmp M.look; rw [b_ok ha, b_ok hb, hp]; dsimp only; rw [hq]; dsimp only; rw [h]; rfl
theorem opV_ok {f : D → D → Option D} {ma mb : M Pk} {p q : Pk} {x y d : D} (ha : ma ρ S = .ok p ρ1 S1) (hb : mb ρ1 S1 = .ok q ρ2 S2) (hp : p.get ρ2 S2 = some x) (hq : q.get ρ2 S2 = some y) (h : f x y = some d) : mOpV f ma mb ρ S = .ok d ρ2 S2 := by
  unfold mOpV M.look; rw [b_ok ha, b_ok hb, hp]; dsimp only; rw [hq]; dsimp only; rw [h]; rfl
theorem op_ok {f : D → D → Option RV} {ma mb : M Pk} {p q : Pk} {x y : D} {d : RV} (ha : ma ρ S = .ok p ρ1 S1) (hb : mb ρ1 S1 = .ok q ρ2 S2) (hp : p.get ρ2 S2 = some x) (hq : q.get ρ2 S2 = some y) (h : f x y = some d) : mOp f ma mb ρ S = .ok d ρ2 S2 := by
  unfold mOp M.look; rw [b_ok ha, b_ok hb, hp]; dsimp only; rw [hq]; dsimp only; rw [h]; rfl
theorem fop_ok {f : D → D → Option RV} {ma mb : M Pk} {p q : Pk} {x y : D} {d : D} (ha : ma ρ S = .ok p ρ1 S1) (hb : mb ρ1 S1 = .ok q ρ2 S2) (hp : p.get ρ2 S2 = some x) (hq : q.get ρ2 S2 = some y) (h : f x y = some (.val d)) : M.frz (mOp f ma mb) ρ S = .ok d ρ2 S2 := frz_ok (op_ok ha hb hp hq h)
theorem if_t {c : M Bool} {m n : M Fl} (h : c ρ S = .ok true ρ1 S1) : sIf c m n ρ S = m ρ1 S1 := by unfold sIf mIf; rw [b_ok h]; rfl
theorem if_f {c : M Bool} {m n : M Fl} (h : c ρ S = .ok false ρ1 S1) : sIf c m n ρ S = n ρ1 S1 := by unfold sIf mIf; rw [b_ok h]; rfl
theorem set_ok {i : Nat} {m : M RV} {r : RV} (h : m ρ S = .ok r ρ1 S1) (hi : i < ρ1.length) : sSet i m ρ S = .ok .nx (ρ1.set i r.toSl) S1 := by unfold sSet sPut; rw [b_ok h, if_pos hi]
theorem drop_ok {m : M RV} {r : RV} (h : m ρ S = .ok r ρ1 S1) : sDrop m ρ S = .ok .nx ρ1 S1 := by unfold sDrop; rw [b_ok h]; rfl
theorem for_ok {mi : M (List D)} {tg : D → M Fl} {body : M Fl} {ds : List D} (h : mi ρ S = .ok ds ρ1 S1) : sFor mi tg body ρ S = forL tg body ds ρ1 S1 := by unfold sFor; rw [b_ok h]
theorem itA_ok {m : M D} {d : D} {ds : List D} (h : m ρ S = .ok d ρ1 S1) (e : lstOr d = some ds) : mItA m ρ S = .ok ds ρ1 S1 := by unfold mItA; rw [b_ok h, e]; rfl
theorem callB1_ok {f : List D → Option RV} {m : M Pk} {p : Pk} {x : D} {r : RV} (h : m ρ S = .ok p ρ1 S1) (hp : p.get ρ1 S1 = some x) (e : f [x] = some r) : mCallB f (mKCons m mKNil) ρ S = .ok r ρ1 S1 := by
  unfold mCallB mKCons mKNil M.looks
  rw [b_ok (a := [p]) (by rw [b_ok h]; rfl)]
  simp only [Pk.gets, hp, e, M.opt]
end
/-! ### dicts with texts for keys -/
abbrev kD (K : List (List Nat)) : List D := K.map D.str
abbrev vD (K : List (List Nat)) (f : List Nat → Int) : List D := K.map fun s => .int (f s)
abbrev tdS (K : List (List Nat)) (f : List Nat → Int) : Sl := .owd (kD K) (vD K f)
def addK (K : List (List Nat)) (s : List Nat) : List (List Nat) := if s ∈ K then K else K ++ [s]
def updF (f : List Nat → Int) (s : List Nat) (v : Int) : List Nat → Int := fun t => if t = s then v else f t
def ZF (K : List (List Nat)) (f : List Nat → Int) : Prop := ∀ s, ¬ s ∈ K → f s = 0
theorem addK_mem {K : List (List Nat)} {s t : List Nat} : t ∈ addK K s ↔ t ∈ K ∨ t = s := by
  unfold addK
  split
  · rename_i h
    exact ⟨fun q => .inl q, fun q => q.elim id fun e => e ▸ h⟩
  · simp
theorem addK_nodup {K : List (List Nat)} {s : List Nat} (h : K.Nodup) : (addK K s).Nodup := by
  unfold addK
  split
  · exact h
  · rename_i hs
    rw [List.nodup_append]
    refine ⟨h, by simp, fun x hx y hy => ?_⟩
    rw [List.mem_singleton] at hy
    subst hy
    exact fun e => hs (e ▸ hx)
theorem addK_len (K : List (List Nat)) (s : List Nat) : (addK K s).length ≤ K.length + 1 := by
  unfold addK
  split
  · omega
  · simp
theorem zf_upd {K : List (List Nat)} {f : List Nat → Int} {s : List Nat} {v : Int} (h : ZF K f) : ZF (addK K s) (updF f s v) := fun t ht => by
  rw [addK_mem] at ht
  unfold updF
  rw [if_neg (fun e => ht (.inr e))]
  exact h t fun q => ht (.inl q)
theorem eqK_str (s t : List Nat) : eqK (.str s) (.str t) = decide (s = t) := by
  unfold eqK
  by_cases h : s = t
  · subst h; simp
  · simp [h]
theorem getK_td {f : List Nat → Int} {s : List Nat} : ∀ K : List (List Nat), getK (kD K) (vD K f) (.str s) = if s ∈ K then some (.int (f s)) else none
  | [] => by simp [getK]
  | t :: K => by
    have ih := getK_td (f := f) (s := s) K
    show (if eqK (.str t) (.str s) = true then some (D.int (f t)) else getK (kD K) (vD K f) (.str s)) = _
    rw [eqK_str, ih]
    by_cases h : t = s
    · subst h; simp
    · have h' : ¬ s = t := fun e => h e.symm
      simp [h, h']
theorem hasK_td {s : List Nat} : ∀ K : List (List Nat), hasK (kD K) (.str s) = decide (s ∈ K)
  | [] => by simp [hasK]
  | t :: K => by
    have ih := hasK_td (s := s) K
    unfold hasK at ih ⊢
    show (List.any (D.str t :: kD K) fun k => eqK k (D.str s)) = _
    rw [List.any_cons, ih, eqK_str]
    by_cases h : t = s
    · subst h; simp
    · have h' : ¬ s = t := fun e => h e.symm
      simp [h, h']
theorem repK_td {f : List Nat → Int} {s : List Nat} {v : Int} : ∀ K : List (List Nat), repK (.str s) (.int v) (kD K) (vD K f) = vD K (updF f s v)
  | [] => rfl
  | t :: K => by
    have ih := repK_td (f := f) (s := s) (v := v) K
    show (if eqK (.str t) (.str s) = true then D.int v else D.int (f t)) :: repK (.str s) (.int v) (kD K) (vD K f) = D.int (updF f s v t) :: vD K (updF f s v)
    rw [ih, eqK_str]
    congr 1
    unfold updF
    by_cases h : t = s
    · simp [h]
    · simp [h]
theorem putKs_td {f : List Nat → Int} {s : List Nat} {v : Int} {K : List (List Nat)} : putKs (kD K) (vD K f) (.str s) (.int v) = (kD (addK K s), vD (addK K s) (updF f s v)) := by
  unfold putKs
  rw [hasK_td]
  by_cases h : s ∈ K
  · rw [if_pos (by simpa using h), repK_td]
    have : addK K s = K := by unfold addK; rw [if_pos h]
    rw [this]
  · rw [if_neg (by simpa using h)]
    have : addK K s = K ++ [s] := by unfold addK; rw [if_neg h]
    rw [this]
    have e1 : vD (K ++ [s]) (updF f s v) = vD K f ++ [D.int v] := by
      show (K ++ [s]).map _ = _
      rw [List.map_append]
      congr 1
      · refine List.map_congr_left fun t ht => ?_
        unfold updF
        rw [if_neg (fun e : t = s => h (e ▸ ht))]
      · simp [updF]
    rw [e1]
    show (kD K ++ [D.str s], _) = (kD (K ++ [s]), _)
    rw [show kD (K ++ [s]) = kD K ++ [D.str s] by simp]
section
variable {ρ ρ1 ρ2 : Env} {S S1 : Store} {K : List (List Nat)} {f : List Nat → Int} {s : List Nat} {i j : Nat} {v : Int}
theorem get2_td {mk : M D} (h : ρ[j]? = some (tdS K f)) (z : ZF K f) (hk : mk ρ S = .ok (.str s) ρ S) : mGet2 (mPk j) mk (mC (.int 0)) ρ S = .ok (.int (f s)) ρ S := by
  have e1 : Pk.get (.slot j) ρ S = some (.dic (kD K) (vD K f)) := pg_ok h rfl
  unfold mGet2 M.look
  rw [b_ok (pk_ok h rfl)]
  try dsimp only
  rw [e1]
  try dsimp only
  rw [if_pos (show isDic (.dic (kD K) (vD K f)) = true from rfl), b_ok hk, b_ok (show mC (.int 0) ρ S = .ok (.int 0) ρ S from rfl)]
  try dsimp only
  rw [e1]
  try dsimp only
  unfold dGetOr
  try dsimp only
  rw [if_pos (show (keyD (.str s)).isSome = true from rfl), getK_td]
  by_cases hs : s ∈ K
  · rw [if_pos hs]; rfl
  · rw [if_neg hs, z s hs]; rfl
theorem dget_td {mb : M Pk} {q : Pk} (h : ρ[j]? = some (tdS K f)) (hb : mb ρ S = .ok q ρ S) (hq : q.get ρ S = some (.str s)) (hs : s ∈ K) : mOpV dGet (mPk j) mb ρ S = .ok (.int (f s)) ρ S :=
  opV_ok (pk_ok h rfl) hb (pg_ok h rfl) hq (by
    show dGet (.dic (kD K) (vD K f)) (.str s) = _
    unfold dGet
    dsimp only
    rw [if_pos (show (keyD (.str s)).isSome = true from rfl), getK_td, if_pos hs])
theorem dput_td {m mk : M D} (hm : m ρ S = .ok (.int v) ρ S) (hk : mk ρ S = .ok (.str s) ρ S) (h : ρ[i]? = some (tdS K f)) (hl : K.length < 10000000) : sDput m i mk ρ S = .ok .nx (ρ.set i (tdS (addK K s) (updF f s v))) S := by
  unfold sDput
  rw [b_ok hm]
  have e1 : chkD i ρ S = .ok () ρ S := by unfold chkD; rw [h]
  rw [b_ok e1, b_ok hk]
  unfold putD
  rw [h]
  dsimp only
  rw [if_pos (by
    show ((keyD (.str s)).isSome && decide ((kD K).length < 10000000)) = true
    rw [List.length_map]
    exact decide_eq_true hl), putKs_td]
theorem sort_td (h : K.length < 64) : fSort [.dic (kD K) (vD K f)] = some (.own ((srtS K).map D.str)) := by
  unfold fSort
  dsimp only
  have := strsD_map (fun x => x) K
  rw [List.map_id'] at this
  rw [this]
  show (if K.length < 64 then _ else _) = _
  rw [if_pos h]
theorem sortpk_td (hj : ρ[j]? = some (tdS K f)) (h : K.length < 64) : mCallB fSort (mKCons (mPk j) mKNil) ρ S = .ok (.own ((srtS K).map D.str)) ρ S :=
  callB1_ok (pk_ok hj rfl) (pg_ok hj rfl) (sort_td h)
theorem itsort_td (hj : ρ[j]? = some (tdS K f)) (h : K.length < 64) : mItA (M.frz (mCallB fSort (mKCons (mPk j) mKNil))) ρ S = .ok ((srtS K).map D.str) ρ S :=
  itA_ok (frz_ok (sortpk_td hj h)) rfl
end
theorem nd_len {α : Type} [BEq α] [LawfulBEq α] : ∀ {l m : List α}, l.Nodup → (∀ x, x ∈ l → x ∈ m) → l.length ≤ m.length
  | [], _, _, _ => Nat.zero_le _
  | a :: l, m, nd, h => by
    obtain ⟨n1, n2⟩ := List.nodup_cons.mp nd
    have ha := h a List.mem_cons_self
    have ih := nd_len (l := l) (m := m.erase a) n2 fun x hx => by
      have hne : x ≠ a := fun e => n1 (e ▸ hx)
      exact (List.mem_erase_of_ne hne).mpr (h x (List.mem_cons_of_mem _ hx))
    rw [List.length_erase_of_mem ha] at ih
    have : 0 < m.length := List.length_pos_of_mem ha
    rw [List.length_cons]; omega
end Thr
namespace Thr
open PySem PySem.Spec PyProof.Rows L2 RZ Sh

/-! ### _law_form: the counting -/
abbrev fE (r : List Nat) (s1 b3 s6 s7 s8 s9 t12 : Sl) : Env := [.val (.str r), s1, .un, b3, .un, .un, s6, s7, s8, s9, .un, .un, t12, .un, .un]
/-- one letter behind a pair -/
theorem form_1 {r : List Nat} {c x y : Nat} {s6 s7 t12 : Sl} {K2 K3 : List (List Nat)} {f2 f3 : List Nat → Int} {S : Store} (z3 : ZF K3 f3) (hm : [x, y] ∈ K2) (hl : K3.length < 10000000) :
    ∃ t12', p__law_form_1 (fE r (.val (.str [c])) (.val (.str [x, y])) s6 s7 (tdS K2 f2) (tdS K3 f3) t12) S = .ok .nx (fE r (.val (.str [c])) (.val (.str [x, y])) s6 s7 (tdS K2 f2) (if c ≠ x ∧ c ≠ y then tdS (addK K3 [x, y, c]) (updF f3 [x, y, c] (f3 [x, y, c] + f2 [x, y])) else tdS K3 f3) t12') S := by
  have hc : mCmp dNotIn (mPk 1) (mPk 3) (fE r (.val (.str [c])) (.val (.str [x, y])) s6 s7 (tdS K2 f2) (tdS K3 f3) t12) S = .ok (decide (c ≠ x ∧ c ≠ y)) _ S :=
    cmp_ok (pk_ok rfl rfl) (pk_ok rfl rfl) (pg_ok rfl rfl) (pg_ok rfl rfl) (by
      show (some (decide (c ∈ [x, y]))).map (!·) = _
      simp only [Option.map_some, List.mem_cons, List.not_mem_nil, or_false, Option.some.injEq]
      by_cases h1 : c = x
      · simp [h1]
      · by_cases h2 : c = y
        · simp [h2]
        · simp [h1, h2])
  unfold p__law_form_1
  by_cases h : c ≠ x ∧ c ≠ y
  · rw [decide_eq_true h] at hc
    rw [if_t hc, if_pos h]
    have e1 : sSet 12 (mOp dAdd (mPk 3) (mPk 1)) (fE r (.val (.str [c])) (.val (.str [x, y])) s6 s7 (tdS K2 f2) (tdS K3 f3) t12) S = .ok .nx (fE r (.val (.str [c])) (.val (.str [x, y])) s6 s7 (tdS K2 f2) (tdS K3 f3) (.val (.str [x, y, c]))) S :=
      set_ok (op_ok (pk_ok rfl rfl) (pk_ok rfl rfl) (pg_ok rfl rfl) (pg_ok rfl rfl) (add_str (a := [x, y]) (b := [c]) (by simp))) (by simp)
    rw [seq_nx e1]
    refine ⟨.val (.str [x, y, c]), ?_⟩
    exact dput_td (fop_ok (mk_ok (get2_td (K := K3) (f := f3) (s := [x, y, c]) rfl z3 (var_ok rfl))) (mk_ok (dget_td (K := K2) (f := f2) (s := [x, y]) rfl (pk_ok rfl rfl) (pg_ok rfl rfl) hm)) rfl rfl rfl) (var_ok rfl) rfl hl
  · rw [decide_eq_false h] at hc
    rw [if_f hc, if_neg h]
    exact ⟨t12, rfl⟩
/-- one letter behind a letter -/
theorem form_2 {r : List Nat} {c x : Nat} {s6 s9 t12 : Sl} {K1 K2 : List (List Nat)} {f1 f2 : List Nat → Int} {S : Store} (z2 : ZF K2 f2) (hm : [x] ∈ K1) (hl : K2.length < 10000000) :
    p__law_form_2 (fE r (.val (.str [c])) (.val (.str [x])) s6 (tdS K1 f1) (tdS K2 f2) s9 t12) S = .ok .nx (fE r (.val (.str [c])) (.val (.str [x])) s6 (tdS K1 f1) (if x ≠ c then tdS (addK K2 [x, c]) (updF f2 [x, c] (f2 [x, c] + f1 [x])) else tdS K2 f2) s9 t12) S := by
  have hc : mCmp dNe (mPk 3) (mPk 1) (fE r (.val (.str [c])) (.val (.str [x])) s6 (tdS K1 f1) (tdS K2 f2) s9 t12) S = .ok (decide (x ≠ c)) _ S :=
    cmp_ok (pk_ok rfl rfl) (pk_ok rfl rfl) (pg_ok rfl rfl) (pg_ok rfl rfl) (by
      show (some (decide ([x] = [c]))).map (!·) = _
      by_cases h1 : x = c
      · simp [h1]
      · simp [h1])
  unfold p__law_form_2
  by_cases h : x ≠ c
  · rw [decide_eq_true h] at hc
    rw [if_t hc, if_pos h]
    have e1 : M.frz (mOp dAdd (mPk 3) (mPk 1)) (fE r (.val (.str [c])) (.val (.str [x])) s6 (tdS K1 f1) (tdS K2 f2) s9 t12) S = .ok (.str [x, c]) (fE r (.val (.str [c])) (.val (.str [x])) s6 (tdS K1 f1) (tdS K2 f2) s9 t12) S :=
      frz_ok (op_ok (pk_ok rfl rfl) (pk_ok rfl rfl) (pg_ok rfl rfl) (pg_ok rfl rfl) (add_str (a := [x]) (b := [c]) (by simp)))
    exact dput_td (fop_ok (mk_ok (get2_td (K := K2) (f := f2) (s := [x, c]) rfl z2 e1)) (mk_ok (dget_td (K := K1) (f := f1) (s := [x]) rfl (pk_ok rfl rfl) (pg_ok rfl rfl) hm)) rfl rfl rfl) e1 rfl hl
  · rw [decide_eq_false h] at hc
    rw [if_f hc, if_neg h]
    rfl
theorem srtS_mem {K : List (List Nat)} {s : List Nat} : s ∈ srtS K ↔ s ∈ K := (srtS_perm K).mem_iff
theorem srtS_nodup {K : List (List Nat)} (h : K.Nodup) : (srtS K).Nodup := (srtS_perm K).nodup_iff.mpr h
structure P2 (K : List (List Nat)) : Prop where
  nd : K.Nodup
  two : ∀ s, s ∈ K → ∃ x y, s = [x, y] ∧ x ≠ y ∧ x ∈ lets ∧ y ∈ lets
def all2 : List (List Nat) := lets.flatMap fun x => (lets.filter fun y => decide (x ≠ y)).map fun y => [x, y]
theorem P2.len {K : List (List Nat)} (h : P2 K) : K.length ≤ 56 := by
  have : K.length ≤ all2.length := nd_len h.nd fun s hs => by
    obtain ⟨x, y, rfl, hne, hx, hy⟩ := h.two s hs
    unfold all2
    rw [List.mem_flatMap]
    exact ⟨x, hx, List.mem_map.mpr ⟨y, List.mem_filter.mpr ⟨hy, decide_eq_true hne⟩, rfl⟩⟩
  exact Nat.le_trans this (by decide)
theorem loop_1 {r : List Nat} {c : Nat} {b3 s6 s7 t12 : Sl} {K2 K3 : List (List Nat)} {f2 f3 : List Nat → Int} {S : Store} (p2 : P2 K2) (z3 : ZF K3 f3) (hl : K3.length < 1000000) (hb : b3 = .un ∨ ∃ s, b3 = .val (.str s)) :
    ∃ b3' t12' K3' f3', sFor (mItA (M.frz (mCallB fSort (mKCons (mPk 8) mKNil)))) (tgN 3) p__law_form_1 (fE r (.val (.str [c])) b3 s6 s7 (tdS K2 f2) (tdS K3 f3) t12) S = .ok .nx (fE r (.val (.str [c])) b3' s6 s7 (tdS K2 f2) (tdS K3' f3') t12') S ∧ (b3' = .un ∨ ∃ s, b3' = .val (.str s)) ∧ ZF K3' f3' ∧ K3'.length ≤ K3.length + 56 ∧
      ∀ x y z, f3' [x, y, z] = f3 [x, y, z] + if z = c ∧ [x, y] ∈ K2 ∧ c ≠ x ∧ c ≠ y then f2 [x, y] else 0 := by
  have h64 : K2.length < 64 := by have := p2.len; omega
  have nd := srtS_nodup p2.nd
  have hlen : (srtS K2).length ≤ 56 := by rw [(srtS_perm K2).length_eq]; exact p2.len
  obtain ⟨ρ', S', e, ⟨b3', t12', K3', f3', rfl, hb', hz, hle, hf⟩, rfl⟩ := forL_pre0 (tg := tgN 3) (body := p__law_form_1) D.str (fun q ρ S1 => (∃ b3' t12' K3' f3', ρ = fE r (.val (.str [c])) b3' s6 s7 (tdS K2 f2) (tdS K3' f3') t12' ∧ (b3' = .un ∨ ∃ s, b3' = .val (.str s)) ∧ ZF K3' f3' ∧ K3'.length ≤ K3.length + q.length ∧
      ∀ x y z, f3' [x, y, z] = f3 [x, y, z] + if z = c ∧ [x, y] ∈ q ∧ c ≠ x ∧ c ≠ y then f2 [x, y] else 0) ∧ S1 = S) (srtS K2)
    (fE r (.val (.str [c])) b3 s6 s7 (tdS K2 f2) (tdS K3 f3) t12) S ⟨⟨b3, t12, K3, f3, rfl, hb, z3, by simp, fun x y z => by simp⟩, rfl⟩ (by
    rintro q s r' hq ρ S1 ⟨⟨b3', t12', K3', f3', rfl, hb', hz, hle, hf⟩, rfl⟩
    have hs : s ∈ K2 := srtS_mem.mp (by rw [hq]; simp)
    have hql : q.length ≤ 56 := by
      have := congrArg List.length hq
      simp at this; omega
    have hnq : ¬ s ∈ q := by
      rw [hq, List.nodup_append] at nd
      exact fun h => nd.2.2 s h s List.mem_cons_self rfl
    obtain ⟨x, y, rfl, hne, hx, hy⟩ := p2.two s hs
    obtain ⟨t', e⟩ := form_1 (r := r) (c := c) (x := x) (y := y) (s6 := s6) (s7 := s7) (t12 := t12') (K2 := K2) (K3 := K3') (f2 := f2) (f3 := f3') (S := S1) hz hs (by omega)
    by_cases h : c ≠ x ∧ c ≠ y
    · rw [if_pos h] at e
      refine ⟨_, S1, .nx, _, S1, rfl, e, .inl rfl, ⟨_, t', _, _, rfl, .inr ⟨_, rfl⟩, zf_upd hz, ?_, fun x' y' z' => ?_⟩, rfl⟩
      · have := addK_len K3' [x, y, c]
        rw [List.length_append, List.length_cons, List.length_nil]; omega
      · unfold updF
        by_cases ht : [x', y', z'] = [x, y, c]
        · obtain ⟨rfl, rfl, rfl⟩ : x' = x ∧ y' = y ∧ z' = c := by simpa using ht
          rw [if_pos rfl, hf, if_neg (fun q => hnq q.2.1), if_pos ⟨rfl, by simp, h.1, h.2⟩]
          omega
        · rw [if_neg ht, hf]
          congr 1
          have : (z' = c ∧ [x', y'] ∈ q ++ [[x, y]] ∧ c ≠ x' ∧ c ≠ y') ↔ (z' = c ∧ [x', y'] ∈ q ∧ c ≠ x' ∧ c ≠ y') := by
            constructor
            · rintro ⟨a1, a2, a3⟩
              rcases List.mem_append.mp a2 with q | q
              · exact ⟨a1, q, a3⟩
              · rw [List.mem_singleton] at q
                exact absurd (by simp at q; simp [a1, q.1, q.2]) ht
            · rintro ⟨a1, a2, a3⟩
              exact ⟨a1, List.mem_append_left _ a2, a3⟩
          simp only [this]
    · rw [if_neg h] at e
      refine ⟨_, S1, .nx, _, S1, rfl, e, .inl rfl, ⟨_, t', _, _, rfl, .inr ⟨_, rfl⟩, hz, ?_, fun x' y' z' => ?_⟩, rfl⟩
      · rw [List.length_append, List.length_cons, List.length_nil]; omega
      · rw [hf]
        congr 1
        have : (z' = c ∧ [x', y'] ∈ q ++ [[x, y]] ∧ c ≠ x' ∧ c ≠ y') ↔ (z' = c ∧ [x', y'] ∈ q ∧ c ≠ x' ∧ c ≠ y') := by
          constructor
          · rintro ⟨a1, a2, a3⟩
            rcases List.mem_append.mp a2 with q | q
            · exact ⟨a1, q, a3⟩
            · rw [List.mem_singleton] at q
              simp at q
              rw [q.1, q.2] at a3
              exact absurd a3 h
          · rintro ⟨a1, a2, a3⟩
            exact ⟨a1, List.mem_append_left _ a2, a3⟩
        simp only [this])
  refine ⟨b3', t12', K3', f3', ?_, hb', hz, by omega, fun x y z => ?_⟩
  · rw [for_ok (itsort_td (K := K2) (f := f2) rfl h64)]
    exact e
  · rw [hf]
    simp only [srtS_mem]
structure P1 (K : List (List Nat)) (q : List Nat) : Prop where
  nd : K.Nodup
  one : ∀ s, s ∈ K → ∃ x, s = [x] ∧ x ∈ q
def all1 : List (List Nat) := lets.map fun x => [x]
theorem P1.len {K : List (List Nat)} {q : List Nat} (h : P1 K q) (hq : ∀ x, x ∈ q → x ∈ lets) : K.length ≤ 8 :=
  nd_len (m := all1) h.nd fun s hs => by
    obtain ⟨x, rfl, hx⟩ := h.one s hs
    exact List.mem_map.mpr ⟨x, hq x hx, rfl⟩
theorem loop_2 {r q0 : List Nat} {c : Nat} {b3 s6 s9 t12 : Sl} {K1 K2 : List (List Nat)} {f1 f2 : List Nat → Int} {S : Store} (p1 : P1 K1 q0) (hq0 : ∀ x, x ∈ q0 → x ∈ lets) (hc : c ∈ lets) (p2 : P2 K2) (z2 : ZF K2 f2) (hb : b3 = .un ∨ ∃ s, b3 = .val (.str s)) :
    ∃ b3' K2' f2', sFor (mItA (M.frz (mCallB fSort (mKCons (mPk 7) mKNil)))) (tgN 3) p__law_form_2 (fE r (.val (.str [c])) b3 s6 (tdS K1 f1) (tdS K2 f2) s9 t12) S = .ok .nx (fE r (.val (.str [c])) b3' s6 (tdS K1 f1) (tdS K2' f2') s9 t12) S ∧ (b3' = .un ∨ ∃ s, b3' = .val (.str s)) ∧ ZF K2' f2' ∧ P2 K2' ∧
      ∀ x y, f2' [x, y] = f2 [x, y] + if y = c ∧ [x] ∈ K1 ∧ x ≠ c then f1 [x] else 0 := by
  have h8 := p1.len hq0
  have h64 : K1.length < 64 := by omega
  have nd := srtS_nodup p1.nd
  obtain ⟨ρ', S', e, ⟨b3', K2', f2', rfl, hb', hz, hp, hf⟩, rfl⟩ := forL_pre0 (tg := tgN 3) (body := p__law_form_2) D.str (fun q ρ S1 => (∃ b3' K2' f2', ρ = fE r (.val (.str [c])) b3' s6 (tdS K1 f1) (tdS K2' f2') s9 t12 ∧ (b3' = .un ∨ ∃ s, b3' = .val (.str s)) ∧ ZF K2' f2' ∧ P2 K2' ∧
      ∀ x y, f2' [x, y] = f2 [x, y] + if y = c ∧ [x] ∈ q ∧ x ≠ c then f1 [x] else 0) ∧ S1 = S) (srtS K1)
    (fE r (.val (.str [c])) b3 s6 (tdS K1 f1) (tdS K2 f2) s9 t12) S ⟨⟨b3, K2, f2, rfl, hb, z2, p2, fun x y => by simp⟩, rfl⟩ (by
    rintro q s r' hq ρ S1 ⟨⟨b3', K2', f2', rfl, hb', hz, hp, hf⟩, rfl⟩
    have hs : s ∈ K1 := srtS_mem.mp (by rw [hq]; simp)
    have hnq : ¬ s ∈ q := by
      rw [hq, List.nodup_append] at nd
      exact fun h => nd.2.2 s h s List.mem_cons_self rfl
    obtain ⟨x, rfl, hx⟩ := p1.one s hs
    have hl2 := hp.len
    have e := form_2 (r := r) (c := c) (x := x) (s6 := s6) (s9 := s9) (t12 := t12) (K1 := K1) (K2 := K2') (f1 := f1) (f2 := f2') (S := S1) hz hs (by omega)
    by_cases h : x ≠ c
    · rw [if_pos h] at e
      refine ⟨_, S1, .nx, _, S1, rfl, e, .inl rfl, ⟨_, _, _, rfl, .inr ⟨_, rfl⟩, zf_upd hz, ⟨addK_nodup hp.nd, fun t ht => ?_⟩, fun x' y' => ?_⟩, rfl⟩
      · rcases addK_mem.mp ht with w | w
        · exact hp.two t w
        · exact ⟨x, c, w, h, hq0 x hx, hc⟩
      · unfold updF
        by_cases ht : [x', y'] = [x, c]
        · obtain ⟨rfl, rfl⟩ : x' = x ∧ y' = c := by simpa using ht
          rw [if_pos rfl, hf, if_neg (fun q => hnq q.2.1), if_pos ⟨rfl, by simp, h⟩]
          omega
        · rw [if_neg ht, hf]
          congr 1
          have : (y' = c ∧ [x'] ∈ q ++ [[x]] ∧ x' ≠ c) ↔ (y' = c ∧ [x'] ∈ q ∧ x' ≠ c) := by
            constructor
            · rintro ⟨a1, a2, a3⟩
              rcases List.mem_append.mp a2 with q | q
              · exact ⟨a1, q, a3⟩
              · rw [List.mem_singleton] at q
                exact absurd (by simp at q; simp [a1, q]) ht
            · rintro ⟨a1, a2, a3⟩
              exact ⟨a1, List.mem_append_left _ a2, a3⟩
          simp only [this]
    · rw [if_neg h] at e
      refine ⟨_, S1, .nx, _, S1, rfl, e, .inl rfl, ⟨_, _, _, rfl, .inr ⟨_, rfl⟩, hz, hp, fun x' y' => ?_⟩, rfl⟩
      rw [hf]
      congr 1
      have : (y' = c ∧ [x'] ∈ q ++ [[x]] ∧ x' ≠ c) ↔ (y' = c ∧ [x'] ∈ q ∧ x' ≠ c) := by
        constructor
        · rintro ⟨a1, a2, a3⟩
          rcases List.mem_append.mp a2 with q | q
          · exact ⟨a1, q, a3⟩
          · rw [List.mem_singleton] at q
            simp at q
            rw [q] at a3
            exact absurd a3 h
        · rintro ⟨a1, a2, a3⟩
          exact ⟨a1, List.mem_append_left _ a2, a3⟩
      simp only [this])
  refine ⟨b3', K2', f2', ?_, hb', hz, hp, fun x y => ?_⟩
  · rw [for_ok (itsort_td (K := K1) (f := f1) rfl h64)]
    exact e
  · rw [hf]
    simp only [srtS_mem]
/-- what is known behind the letters q -/
structure Cnt (q : List Nat) (K1 K2 K3 : List (List Nat)) (f1 f2 f3 : List Nat → Int) : Prop where
  z1 : ZF K1 f1
  z2 : ZF K2 f2
  z3 : ZF K3 f3
  p1 : P1 K1 q
  p2 : P2 K2
  l3 : K3.length ≤ 56 * q.length
  v1 : ∀ x, f1 [x] = (n1 x q : Nat)
  v2 : ∀ x y, x ≠ y → f2 [x, y] = (n2 x y q : Nat)
  v3 : ∀ x y z, x ≠ y → z ≠ x → z ≠ y → f3 [x, y, z] = (n3 x y z q : Nat)
theorem form_3 {r q : List Nat} {c : Nat} {b3 s6 s1 t12 : Sl} {K1 K2 K3 : List (List Nat)} {f1 f2 f3 : List Nat → Int} {S : Store} (J : Cnt q K1 K2 K3 f1 f2 f3) (hq : ∀ x, x ∈ q → x ∈ lets) (hql : q.length < 10000) (hc : c ∈ lets) (hb : b3 = .un ∨ ∃ s, b3 = .val (.str s)) :
    ∃ b3' t12' K1' K2' K3' f1' f2' f3', p__law_form_3 (fE r (.val (.str [c])) b3 s6 (tdS K1 f1) (tdS K2 f2) (tdS K3 f3) t12) S = .ok .nx (fE r (.val (.str [c])) b3' s6 (tdS K1' f1') (tdS K2' f2') (tdS K3' f3') t12') S ∧ (b3' = .un ∨ ∃ s, b3' = .val (.str s)) ∧ Cnt (q ++ [c]) K1' K2' K3' f1' f2' f3' := by
  have hl3 := J.l3
  obtain ⟨b3a, t12a, K3', f3', e1, hb1, hz3, hle3, hf3⟩ := loop_1 (r := r) (c := c) (b3 := b3) (s6 := s6) (s7 := tdS K1 f1) (t12 := t12) (K2 := K2) (f2 := f2) (S := S) J.p2 J.z3 (by omega) hb
  obtain ⟨b3b, K2', f2', e2, hb2, hz2, hp2, hf2⟩ := loop_2 (r := r) (c := c) (b3 := b3a) (s6 := s6) (s9 := tdS K3' f3') (t12 := t12a) (K1 := K1) (f1 := f1) (S := S) J.p1 hq hc J.p2 J.z2 hb1
  have h8 := J.p1.len hq
  have e3 : sDput (M.frz (mOp dAdd (mK (mGet2 (mPk 7) (mVar 1) (mC (.int 0)))) (mK (mC (.int 1))))) 7 (mVar 1) (fE r (.val (.str [c])) b3b s6 (tdS K1 f1) (tdS K2' f2') (tdS K3' f3') t12a) S = .ok .nx (fE r (.val (.str [c])) b3b s6 (tdS (addK K1 [c]) (updF f1 [c] (f1 [c] + 1))) (tdS K2' f2') (tdS K3' f3') t12a) S :=
    dput_td (fop_ok (d := .int (f1 [c] + 1)) (x := .int (f1 [c])) (y := .int 1) (mk_ok (get2_td (K := K1) (f := f1) (s := [c]) rfl J.z1 (var_ok rfl))) (mk_ok c_ok) rfl rfl rfl) (var_ok rfl) rfl (by omega)
  refine ⟨b3b, t12a, addK K1 [c], K2', K3', updF f1 [c] (f1 [c] + 1), f2', f3', ?_, hb2, ⟨zf_upd J.z1, hz2, hz3, ⟨addK_nodup J.p1.nd, fun s hs => ?_⟩, hp2, ?_, fun x => ?_, fun x y hxy => ?_, fun x y z hxy hzx hzy => ?_⟩⟩
  · unfold p__law_form_3
    rw [seq_nx e1, seq_nx e2]
    exact e3
  · rcases addK_mem.mp hs with w | w
    · obtain ⟨x, e, hx⟩ := J.p1.one s w
      exact ⟨x, e, List.mem_append_left _ hx⟩
    · exact ⟨c, w, by simp⟩
  · rw [List.length_append, List.length_cons, List.length_nil]; omega
  · unfold updF
    rw [n1_snoc, b2n_eq]
    by_cases h : x = c
    · subst h
      rw [if_pos rfl, if_pos rfl, J.v1]; rfl
    · have h' : ¬ c = x := fun e => h e.symm
      rw [if_neg (by simpa using h), if_neg h', J.v1]; rfl
  · rw [hf2, n2_snoc, b2n_eq, J.v2 x y hxy, Int.natCast_add, Int.natCast_mul, int_if]
    congr 1
    by_cases hy : c = y
    · subst hy
      rw [if_pos rfl, Int.mul_one, ← J.v1]
      by_cases hk : [x] ∈ K1
      · rw [if_pos ⟨rfl, hk, hxy⟩]
      · rw [if_neg (fun q => hk q.2.1), J.z1 _ hk]
    · rw [if_neg hy, Int.mul_zero, if_neg (fun q => hy q.1.symm)]
  · rw [hf3, n3_snoc, b2n_eq, J.v3 x y z hxy hzx hzy, Int.natCast_add, Int.natCast_mul, int_if]
    congr 1
    by_cases hy : c = z
    · subst hy
      rw [if_pos rfl, Int.mul_one, ← J.v2 x y hxy]
      by_cases hk : [x, y] ∈ K2
      · rw [if_pos ⟨rfl, hk, hzx, hzy⟩]
      · rw [if_neg (fun q => hk q.2.1), J.z2 _ hk]
    · rw [if_neg hy, Int.mul_zero, if_neg (fun q => hy q.1.symm)]
theorem count_loop {r p : List Nat} {S : Store} (hp : ∀ x, x ∈ p → x ∈ lets) (hl : p.length < 10000) :
    ∃ s1 b3 t12 K1 K2 K3 f1 f2 f3, sFor (mItA (mVar 6)) (tgN 1) p__law_form_3 (fE r .un .un (.val (.str p)) (tdS [] fun _ => 0) (tdS [] fun _ => 0) (tdS [] fun _ => 0) .un) S = .ok .nx (fE r s1 b3 (.val (.str p)) (tdS K1 f1) (tdS K2 f2) (tdS K3 f3) t12) S ∧ (b3 = .un ∨ ∃ s, b3 = .val (.str s)) ∧ (s1 = .un ∨ ∃ d, s1 = .val d) ∧ Cnt p K1 K2 K3 f1 f2 f3 := by
  obtain ⟨ρ', S', e, ⟨s1, b3, t12, K1, K2, K3, f1, f2, f3, rfl, hb, hs1, J⟩, rfl⟩ := forL_pre0 (tg := tgN 1) (body := p__law_form_3) chD (fun q ρ S1 => (∃ s1 b3 t12 K1 K2 K3 f1 f2 f3, ρ = fE r s1 b3 (.val (.str p)) (tdS K1 f1) (tdS K2 f2) (tdS K3 f3) t12 ∧ (b3 = .un ∨ ∃ s, b3 = .val (.str s)) ∧ (s1 = .un ∨ ∃ d, s1 = .val d) ∧ Cnt q K1 K2 K3 f1 f2 f3) ∧ S1 = S) p
    (fE r .un .un (.val (.str p)) (tdS [] fun _ => 0) (tdS [] fun _ => 0) (tdS [] fun _ => 0) .un) S ⟨⟨_, _, _, _, _, _, _, _, _, rfl, .inl rfl, .inl rfl, ⟨fun _ _ => rfl, fun _ _ => rfl, fun _ _ => rfl, ⟨List.nodup_nil, fun s h => absurd h (by simp)⟩, ⟨List.nodup_nil, fun s h => absurd h (by simp)⟩, Nat.zero_le _, fun _ => rfl, fun _ _ _ => rfl, fun _ _ _ _ _ _ => rfl⟩⟩, rfl⟩ (by
    rintro q c r' hq ρ S1 ⟨⟨s1, b3, t12, K1, K2, K3, f1, f2, f3, rfl, hb, hs1, J⟩, rfl⟩
    have hql : q.length < 10000 := by
      have := congrArg List.length hq
      simp at this; omega
    have hcm : c ∈ lets := hp c (by rw [hq]; simp)
    obtain ⟨b3', t12', K1', K2', K3', f1', f2', f3', e, hb', J'⟩ := form_3 (r := r) (c := c) (b3 := b3) (s6 := .val (.str p)) (t12 := t12) (s1 := .un) (S := S1) J (fun x hx => hp x (by rw [hq]; exact List.mem_append_left _ hx)) hql hcm hb
    exact ⟨_, S1, .nx, _, S1, rfl, e, .inl rfl, ⟨_, _, _, _, _, _, _, _, _, rfl, hb', .inr ⟨_, rfl⟩, J'⟩, rfl⟩)
  exact ⟨s1, b3, t12, K1, K2, K3, f1, f2, f3, by rw [for_ok (itA_ok (d := .str p) (var_ok rfl) rfl)]; exact e, hb, hs1, J⟩
end Thr
namespace Thr
open PySem PySem.Spec PyProof.Rows L2 RZ Sh

/-! ### comprehensions over one name -/
section
variable {ρ : Env} {S : Store}
def UV (sl : Sl) : Prop := sl = .un ∨ ∃ d, sl = .val d
theorem rest1 {ρ1 : Env} {v : Nat} {sl : Sl} (h : ρ[v]? = some sl) (hs : UV sl) (hw : wipeE ρ1 [v] = wipeE ρ [v]) : restE ρ (wipeE ρ1 [v]) [v] = ρ := by
  rw [hw]
  unfold restE wipeE
  rw [h]
  rcases hs with rfl | ⟨d, rfl⟩
  · dsimp only
    unfold restE wipeE
    exact List.set_self ρ v _ h
  · dsimp only
    unfold restE wipeE
    rw [List.set_set]
    exact List.set_self ρ v _ h
theorem tgN_w {ρ0 : Env} {v : Nat} {sl : Sl} {d : D} (h : ρ[v]? = some sl) (h0 : wipeE ρ0 [v] = wipeE ρ [v]) : tgN v d (wipeE ρ0 [v]) S = .ok .nx (ρ.set v (.val d)) S := by
  rw [h0]
  unfold tgN sPut wipeE wipeE
  rw [if_pos (by rw [List.length_set]; exact (List.getElem?_eq_some_iff.mp h).1), List.set_set]
  rfl
theorem wipe_set {v : Nat} {d : D} : wipeE (ρ.set v (.val d)) [v] = wipeE ρ [v] := by
  unfold wipeE wipeE
  rw [List.set_set]
theorem lc1_map {v : Nat} {mi : M (List D)} {te : M D} {ds : List D} {sl : Sl} (f : D → D) (hmi : mi ρ S = .ok ds ρ S) (h : ρ[v]? = some sl) (hs : UV sl) (hl : ds.length < 10000000)
    (ht : ∀ d, d ∈ ds → te (ρ.set v (.val d)) S = .ok (f d) (ρ.set v (.val d)) S) : mLC [v] mi (tgN v) mYes te ρ S = .ok (.own (ds.map f)) ρ S := by
  obtain ⟨ρ', e, hw⟩ := lcL_map (vs := [v]) (mt := tgN v) (tt := mYes) (te := te) f ds ρ S fun d hd ρ0 h0 =>
    ⟨ρ.set v (.val d), ρ.set v (.val d), ρ.set v (.val d), tgN_w h h0, rfl, ht d hd, wipe_set⟩
  unfold mLC
  rw [b_ok hmi]
  try dsimp only
  rw [if_pos hl, e]
  dsimp only
  rw [rest1 h hs hw]
theorem lc1_filter {v : Nat} {mi : M (List D)} {tt : M Bool} {te : M D} {ds : List D} {sl : Sl} (p : D → Bool) (f : D → D) (hmi : mi ρ S = .ok ds ρ S) (h : ρ[v]? = some sl) (hs : UV sl) (hl : ds.length < 10000000)
    (htt : ∀ d, d ∈ ds → tt (ρ.set v (.val d)) S = .ok (p d) (ρ.set v (.val d)) S)
    (ht : ∀ d, d ∈ ds → p d = true → te (ρ.set v (.val d)) S = .ok (f d) (ρ.set v (.val d)) S) : mLC [v] mi (tgN v) tt te ρ S = .ok (.own ((ds.filter p).map f)) ρ S := by
  obtain ⟨ρ', e, hw⟩ := lcL_filter (vs := [v]) (mt := tgN v) (tt := tt) (te := te) p f ds ρ S fun d hd ρ0 h0 =>
    ⟨ρ.set v (.val d), ρ.set v (.val d), tgN_w h h0, htt d hd, wipe_set, fun q => ⟨ρ.set v (.val d), ht d hd q, wipe_set⟩⟩
  unfold mLC
  rw [b_ok hmi]
  try dsimp only
  rw [if_pos hl, e]
  dsimp only
  rw [rest1 h hs hw]
theorem app2_ok {i k : Nat} {m : M D} {xss : List (List D)} {xs : List D} {d : D} (h : ρ[i]? = some (.ow2 false xss)) (hk : xss[k]? = some xs) (hl : xs.length < 10000000) (hm : m (ρ.set i .un) S = .ok d (ρ.set i .un) S) :
    sApp2 i k m ρ S = .ok .nx (ρ.set i (.ow2 false (xss.set k (xs ++ [d])))) S := by
  unfold sApp2
  rw [h]
  dsimp only
  rw [hk]
  dsimp only
  rw [if_pos hl, hm]
  dsimp only
  rw [if_pos (by rw [List.length_set]; exact (List.getElem?_eq_some_iff.mp h).1), List.set_set]
theorem tup2_ok {ma mb : M D} {ρ1 ρ2 : Env} {S1 S2 : Store} {a b : D} (ha : ma ρ S = .ok a ρ1 S1) (hb : mb ρ1 S1 = .ok b ρ2 S2) : mTup (mCons ma (mCons mb mNil)) ρ S = .ok (.tup [a, b]) ρ2 S2 := by
  have e : mCons ma (mCons mb mNil) ρ S = .ok [a, b] ρ2 S2 := by
    unfold mCons
    rw [b_ok ha]
    unfold mNil
    rw [b_ok (a := [b]) (by rw [b_ok hb]; rfl)]
    rfl
  unfold mTup
  rw [b_ok e]
  simp [SZ_is, M.ret]
theorem chain_ok {i j k : Nat} {x y z : Nat} (hi : ρ[i]? = some (.val (.str [x]))) (hj : ρ[j]? = some (.val (.str [y]))) (hk : ρ[k]? = some (.val (.str [z]))) : mChain dLt dLt (mPk i) (mPk j) (mPk k) ρ S = .ok (decide (x < y ∧ y < z)) ρ S := by
  have g1 : Pk.get (.slot i) ρ S = some (.str [x]) := pg_ok hi rfl
  have g2 : Pk.get (.slot j) ρ S = some (.str [y]) := pg_ok hj rfl
  have g3 : Pk.get (.slot k) ρ S = some (.str [z]) := pg_ok hk rfl
  unfold mChain
  rw [b_ok (pk_ok hi rfl), b_ok (pk_ok hj rfl)]
  have e : (M.look (.slot i) fun x => M.look (.slot j) fun y => M.opt (dLt x y)) ρ S = .ok (decide (x < y)) ρ S := by
    unfold M.look
    rw [g1]; dsimp only; rw [g2]
    simp only [dLt, strLt_one, M.opt]
  rw [b_ok e]
  by_cases h1 : x < y
  · rw [if_pos (decide_eq_true h1), b_ok (pk_ok hk rfl)]
    unfold M.look
    rw [g2]; dsimp only; rw [g3]
    simp only [dLt, strLt_one, M.opt, h1, true_and]
  · rw [if_neg (by simpa using h1)]
    simp [M.ret, h1]
end
theorem fTup_lst (xs : List D) : fTuple [.lst xs] = some (.val (.tup xs)) := rfl
theorem ixpr_1 (s : D) (n : D) : dIx (.tup [s, n]) (.int 1) = some n := rfl
theorem ix2_0 (x y : Nat) : dIx (.str [x, y]) (.int 0) = some (.str [x]) := by unfold dIx; dsimp only; rw [if_pos (by rw [SZ_is]; exact (by decide : 2 ≤ 16777216))]; rfl
theorem ix2_1 (x y : Nat) : dIx (.str [x, y]) (.int 1) = some (.str [y]) := by unfold dIx; dsimp only; rw [if_pos (by rw [SZ_is]; exact (by decide : 2 ≤ 16777216))]; rfl
theorem mod3 (n : Int) : dMod (.int n) (.int 3) = some (.val (.int (n % 3))) := rfl
/-! ### _law_form: the form of the counts -/
abbrev gE (r : List Nat) (s1 s2 b3 s4 s5 s6 s7 s8 s9 s10 s11 t12 s14 : Sl) : Env := [.val (.str r), s1, s2, b3, s4, s5, s6, s7, s8, s9, s10, s11, t12, .un, s14]
def lt2 : List Nat → Bool
  | [x, y] => decide (x < y)
  | _ => false
def h3 (f : List Nat → Int) : List Nat → Int
  | [x, y, z] => f [x, y, z] - f [y, x, z]
  | _ => 0
theorem form_4 {r : List Nat} {s1 s2 s6 s8 s9 t12 : Sl} {K1 : List (List Nat)} {f1 : List Nat → Int} {s : List Nat} {S : Store} (h : s ∈ K1) :
    p__law_form_4 (gE r s1 s2 (.val (.str s)) .un .un s6 (tdS K1 f1) s8 s9 .un .un t12 .un) S = .ok (reD f1 s) (gE r s1 s2 (.val (.str s)) .un .un s6 (tdS K1 f1) s8 s9 .un .un t12 .un) S := by
  unfold p__law_form_4
  exact tup2_ok (var_ok rfl) (fop_ok (x := .int (f1 s)) (y := .int 3) (d := .int (f1 s % 3)) (mk_ok (dget_td (K := K1) (f := f1) (s := s) rfl (pk_ok rfl rfl) (pg_ok rfl rfl) h)) (mk_ok c_ok) rfl rfl rfl)
theorem form_5 {r : List Nat} {s1 s6 s7 s9 t12 : Sl} {K2 : List (List Nat)} {f2 : List Nat → Int} {x y : Nat} {S : Store} {A B : List D} (h : [x, y] ∈ K2) (hl : B.length < 10000000) :
    p__law_form_5 (gE r s1 (.ow2 false [A, B, []]) (.val (.str [x, y])) .un .un s6 s7 (tdS K2 f2) s9 .un .un t12 .un) S = .ok .nx (gE r s1 (.ow2 false [A, if x < y then B ++ [reD f2 [x, y]] else B, []]) (.val (.str [x, y])) .un .un s6 s7 (tdS K2 f2) s9 .un .un t12 .un) S := by
  have hc : mCmp dLt (mK (mOpV dIx (mPk 3) (mK (mC (.int 0))))) (mK (mOpV dIx (mPk 3) (mK (mC (.int 1))))) (gE r s1 (.ow2 false [A, B, []]) (.val (.str [x, y])) .un .un s6 s7 (tdS K2 f2) s9 .un .un t12 .un) S = .ok (decide (x < y)) (gE r s1 (.ow2 false [A, B, []]) (.val (.str [x, y])) .un .un s6 s7 (tdS K2 f2) s9 .un .un t12 .un) S :=
    cmp_ok (x := .str [x]) (y := .str [y]) (mk_ok (opV_ok (pk_ok rfl rfl) (mk_ok c_ok) (pg_ok rfl rfl) rfl (ix2_0 x y))) (mk_ok (opV_ok (pk_ok rfl rfl) (mk_ok c_ok) (pg_ok rfl rfl) rfl (ix2_1 x y))) rfl rfl (by simp only [dLt, strLt_one])
  unfold p__law_form_5
  by_cases hxy : x < y
  · rw [decide_eq_true hxy] at hc
    rw [if_t hc, if_pos hxy]
    exact app2_ok (i := 2) (k := 1) (xss := [A, B, []]) (xs := B) (d := reD f2 [x, y]) rfl rfl hl (tup2_ok (var_ok rfl) (fop_ok (x := .int (f2 [x, y])) (y := .int 3) (d := .int (f2 [x, y] % 3)) (mk_ok (dget_td (K := K2) (f := f2) (s := [x, y]) rfl (pk_ok rfl rfl) (pg_ok rfl rfl) h)) (mk_ok c_ok) rfl rfl rfl))
  · rw [decide_eq_false hxy] at hc
    rw [if_f hc, if_neg hxy]
    rfl
theorem loop_5 {r : List Nat} {s1 b3 s6 s7 s9 t12 : Sl} {K2 : List (List Nat)} {f2 : List Nat → Int} {S : Store} {A : List D} (p2 : P2 K2) (hb : UV b3) :
    ∃ b3', UV b3' ∧ sFor (mItA (M.frz (mCallB fSort (mKCons (mPk 8) mKNil)))) (tgN 3) p__law_form_5 (gE r s1 (.ow2 false [A, [], []]) b3 .un .un s6 s7 (tdS K2 f2) s9 .un .un t12 .un) S = .ok .nx (gE r s1 (.ow2 false [A, ((srtS K2).filter lt2).map (reD f2), []]) b3' .un .un s6 s7 (tdS K2 f2) s9 .un .un t12 .un) S := by
  have h56 := p2.len
  have hlen : (srtS K2).length ≤ 56 := by rw [(srtS_perm K2).length_eq]; exact h56
  obtain ⟨ρ', S', e, ⟨b3', hb', rfl⟩, rfl⟩ := forL_pre0 (tg := tgN 3) (body := p__law_form_5) D.str (fun q ρ S1 => (∃ b3', UV b3' ∧ ρ = gE r s1 (.ow2 false [A, (q.filter lt2).map (reD f2), []]) b3' .un .un s6 s7 (tdS K2 f2) s9 .un .un t12 .un) ∧ S1 = S) (srtS K2)
    (gE r s1 (.ow2 false [A, [], []]) b3 .un .un s6 s7 (tdS K2 f2) s9 .un .un t12 .un) S ⟨⟨b3, hb, rfl⟩, rfl⟩ (by
    rintro q s r' hq ρ S1 ⟨⟨b3', hb', rfl⟩, rfl⟩
    have hs : s ∈ K2 := srtS_mem.mp (by rw [hq]; simp)
    have hql : q.length ≤ 56 := by
      have := congrArg List.length hq
      simp at this; omega
    obtain ⟨x, y, rfl, hne, hx, hy⟩ := p2.two s hs
    have e := form_5 (r := r) (s1 := s1) (s6 := s6) (s7 := s7) (s9 := s9) (t12 := t12) (f2 := f2) (S := S1) (A := A) (B := (q.filter lt2).map (reD f2)) hs (by
      rw [List.length_map]
      have := List.length_filter_le lt2 q
      omega)
    refine ⟨_, S1, .nx, _, S1, rfl, e, .inl rfl, ⟨.val (.str [x, y]), .inr ⟨_, rfl⟩, ?_⟩, rfl⟩
    rw [List.filter_append]
    by_cases hxy : x < y
    · rw [if_pos hxy]; simp [lt2, hxy]
    · rw [if_neg hxy]; simp [lt2, hxy])
  refine ⟨b3', hb', ?_⟩
  rw [for_ok (itsort_td (K := K2) (f := f2) rfl (by omega))]
  exact e
theorem form_6 {r : List Nat} {s1 b3 s4 s6 s7 s8 t12 s14 : Sl} {K3 : List (List Nat)} {f3 : List Nat → Int} {x y z : Nat} {S : Store} {A B D3 : List D} (z3 : ZF K3 f3) (hl : D3.length < 10000000) :
    ∃ s14', p__law_form_6 (gE r s1 (.ow2 false [A, B, D3]) b3 s4 (.val (.str [x])) s6 s7 s8 (tdS K3 f3) (.val (.str [y])) (.val (.str [z])) t12 s14) S = .ok .nx (gE r s1 (.ow2 false [A, B, if x < y ∧ y < z then D3 ++ [reD (h3 f3) [x, y, z]] else D3]) b3 s4 (.val (.str [x])) s6 s7 s8 (tdS K3 f3) (.val (.str [y])) (.val (.str [z])) t12 s14') S := by
  have hc := chain_ok (ρ := gE r s1 (.ow2 false [A, B, D3]) b3 s4 (.val (.str [x])) s6 s7 s8 (tdS K3 f3) (.val (.str [y])) (.val (.str [z])) t12 s14) (S := S) (i := 5) (j := 10) (k := 11) (x := x) (y := y) (z := z) rfl rfl rfl
  have cat : ∀ (s2 s14 : Sl) (i j k : Nat) (a b c : Nat), (gE r s1 s2 b3 s4 (.val (.str [x])) s6 s7 s8 (tdS K3 f3) (.val (.str [y])) (.val (.str [z])) t12 s14)[i]? = some (.val (.str [a])) → (gE r s1 s2 b3 s4 (.val (.str [x])) s6 s7 s8 (tdS K3 f3) (.val (.str [y])) (.val (.str [z])) t12 s14)[j]? = some (.val (.str [b])) → (gE r s1 s2 b3 s4 (.val (.str [x])) s6 s7 s8 (tdS K3 f3) (.val (.str [y])) (.val (.str [z])) t12 s14)[k]? = some (.val (.str [c])) →
      M.frz (mOp dAdd (mK (M.frz (mOp dAdd (mPk i) (mPk j)))) (mPk k)) (gE r s1 s2 b3 s4 (.val (.str [x])) s6 s7 s8 (tdS K3 f3) (.val (.str [y])) (.val (.str [z])) t12 s14) S = .ok (.str [a, b, c]) (gE r s1 s2 b3 s4 (.val (.str [x])) s6 s7 s8 (tdS K3 f3) (.val (.str [y])) (.val (.str [z])) t12 s14) S := fun s2 s14 i j k a b c hi hj hk =>
    fop_ok (x := .str [a, b]) (y := .str [c]) (mk_ok (fop_ok (x := .str [a]) (y := .str [b]) (d := .str [a, b]) (pk_ok hi rfl) (pk_ok hj rfl) (pg_ok hi rfl) (pg_ok hj rfl) (add_str (a := [a]) (b := [b]) (by simp)))) (pk_ok hk rfl) rfl (pg_ok hk rfl) (add_str (a := [a, b]) (b := [c]) (by simp))
  unfold p__law_form_6
  by_cases h : x < y ∧ y < z
  · rw [decide_eq_true h] at hc
    rw [if_t hc, if_pos h]
    have e1 : sSet 14 (M.vl (mGet2 (mPk 9) (M.frz (mOp dAdd (mK (M.frz (mOp dAdd (mPk 5) (mPk 10)))) (mPk 11))) (mC (.int 0)))) (gE r s1 (.ow2 false [A, B, D3]) b3 s4 (.val (.str [x])) s6 s7 s8 (tdS K3 f3) (.val (.str [y])) (.val (.str [z])) t12 s14) S = .ok .nx (gE r s1 (.ow2 false [A, B, D3]) b3 s4 (.val (.str [x])) s6 s7 s8 (tdS K3 f3) (.val (.str [y])) (.val (.str [z])) t12 (.val (.int (f3 [x, y, z])))) S :=
      set_ok (r := .val (.int (f3 [x, y, z]))) (vl_ok (get2_td (K := K3) (f := f3) (s := [x, y, z]) rfl z3 (cat _ _ 5 10 11 x y z rfl rfl rfl))) (by simp)
    have e2 : sSet 14 (mOp dSub (mPk 14) (mK (mGet2 (mPk 9) (M.frz (mOp dAdd (mK (M.frz (mOp dAdd (mPk 10) (mPk 5)))) (mPk 11))) (mC (.int 0))))) (gE r s1 (.ow2 false [A, B, D3]) b3 s4 (.val (.str [x])) s6 s7 s8 (tdS K3 f3) (.val (.str [y])) (.val (.str [z])) t12 (.val (.int (f3 [x, y, z])))) S = .ok .nx (gE r s1 (.ow2 false [A, B, D3]) b3 s4 (.val (.str [x])) s6 s7 s8 (tdS K3 f3) (.val (.str [y])) (.val (.str [z])) t12 (.val (.int (f3 [x, y, z] - f3 [y, x, z])))) S :=
      set_ok (r := .val (.int (f3 [x, y, z] - f3 [y, x, z]))) (op_ok (x := .int (f3 [x, y, z])) (y := .int (f3 [y, x, z])) (pk_ok rfl rfl) (mk_ok (get2_td (K := K3) (f := f3) (s := [y, x, z]) rfl z3 (cat _ _ 10 5 11 y x z rfl rfl rfl))) (pg_ok rfl rfl) rfl rfl) (by simp)
    rw [seq_nx e1, seq_nx e2]
    refine ⟨.val (.int (f3 [x, y, z] - f3 [y, x, z])), ?_⟩
    exact app2_ok (i := 2) (k := 2) (xss := [A, B, D3]) (xs := D3) (d := reD (h3 f3) [x, y, z]) rfl rfl hl (tup2_ok (cat .un _ 5 10 11 x y z rfl rfl rfl) (fop_ok (x := .int (f3 [x, y, z] - f3 [y, x, z])) (y := .int 3) (d := .int ((f3 [x, y, z] - f3 [y, x, z]) % 3)) (pk_ok rfl rfl) (mk_ok c_ok) (pg_ok rfl rfl) rfl rfl))
  · rw [decide_eq_false h] at hc
    rw [if_f hc, if_neg h]
    exact ⟨s14, rfl⟩
end Thr
namespace Thr
open PySem PySem.Spec PyProof.Rows L2 RZ Sh

theorem def_rt {np n : Nat} {m : M Fl} {ds : List D} {S S' : Store} {ρ' : Env} {r : RV} (hl : ds.length = np) (h : m (ds.map Sl.val ++ List.replicate (n - ds.length) .un) S = .ok (.rt r) ρ' S') : mDef np n m ds S = .ok r.out S' := by
  unfold mDef
  rw [if_pos hl]
  subst hl
  rw [h]
/-! ### _law_form: the last loops -/
abbrev lsS (ls : List Nat) : Sl := .val (.lst (ls.map chD))
theorem it4 {r : List Nat} {s1 s2 b3 s5 s6 s7 s8 s9 s10 s11 t12 s14 : Sl} {ls : List Nat} {S : Store} : mItA (mVar 4) (gE r s1 s2 b3 (lsS ls) s5 s6 s7 s8 s9 s10 s11 t12 s14) S = .ok (ls.map chD) (gE r s1 s2 b3 (lsS ls) s5 s6 s7 s8 s9 s10 s11 t12 s14) S := itA_ok (d := .lst (ls.map chD)) (var_ok rfl) rfl
theorem form_7 {r ls : List Nat} {s1 b3 s6 s7 s8 t12 s11 s14 : Sl} {K3 : List (List Nat)} {f3 : List Nat → Int} {x y : Nat} {S : Store} {A B D3 : List D} (z3 : ZF K3 f3) (h8 : ls.length ≤ 8) (hl : D3.length < 1000000) :
    ∃ s11' s14', p__law_form_7 (gE r s1 (.ow2 false [A, B, D3]) b3 (lsS ls) (.val (.str [x])) s6 s7 s8 (tdS K3 f3) (.val (.str [y])) s11 t12 s14) S = .ok .nx (gE r s1 (.ow2 false [A, B, D3 ++ row3 (reD (h3 f3)) x y ls]) b3 (lsS ls) (.val (.str [x])) s6 s7 s8 (tdS K3 f3) (.val (.str [y])) s11' t12 s14') S := by
  obtain ⟨ρ', S', e, ⟨b5, b6, rfl⟩, rfl⟩ := forL_pre0 (tg := tgN 11) (body := p__law_form_6) chD (fun q ρ S1 => (∃ b5 b6, ρ = gE r s1 (.ow2 false [A, B, D3 ++ row3 (reD (h3 f3)) x y q]) b3 (lsS ls) (.val (.str [x])) s6 s7 s8 (tdS K3 f3) (.val (.str [y])) b5 t12 b6) ∧ S1 = S) ls
    (gE r s1 (.ow2 false [A, B, D3]) b3 (lsS ls) (.val (.str [x])) s6 s7 s8 (tdS K3 f3) (.val (.str [y])) s11 t12 s14) S ⟨⟨s11, s14, by simp [row3]⟩, rfl⟩ (by
    rintro q c r' hq ρ S1 ⟨⟨b5, b6, rfl⟩, rfl⟩
    have hq2 : q.length ≤ 8 := by
      have := congrArg List.length hq
      simp at this; omega
    obtain ⟨c6, e⟩ := form_6 (r := r) (s1 := s1) (b3 := b3) (s4 := lsS ls) (s6 := s6) (s7 := s7) (s8 := s8) (t12 := t12) (s14 := b6) (x := x) (y := y) (z := c) (A := A) (B := B) (D3 := D3 ++ row3 (reD (h3 f3)) x y q) (S := S1) z3 (by
      have := row3_len (f := reD (h3 f3)) (x := x) (y := y) (q := q)
      rw [List.length_append]; omega)
    refine ⟨_, S1, .nx, _, S1, rfl, e, .inl rfl, ⟨.val (.str [c]), c6, ?_⟩, rfl⟩
    rw [row3_snoc]
    split <;> simp)
  refine ⟨b5, b6, ?_⟩
  unfold p__law_form_7
  rw [for_ok it4]
  exact e
theorem form_8 {r ls : List Nat} {s1 b3 s6 s7 s8 t12 s10 s11 s14 : Sl} {K3 : List (List Nat)} {f3 : List Nat → Int} {x : Nat} {S : Store} {A B D3 : List D} (z3 : ZF K3 f3) (h8 : ls.length ≤ 8) (hl : D3.length < 100000) :
    ∃ s10' s11' s14', p__law_form_8 (gE r s1 (.ow2 false [A, B, D3]) b3 (lsS ls) (.val (.str [x])) s6 s7 s8 (tdS K3 f3) s10 s11 t12 s14) S = .ok .nx (gE r s1 (.ow2 false [A, B, D3 ++ ls.flatMap fun y => row3 (reD (h3 f3)) x y ls]) b3 (lsS ls) (.val (.str [x])) s6 s7 s8 (tdS K3 f3) s10' s11' t12 s14') S ∧ (ls.flatMap fun y => row3 (reD (h3 f3)) x y ls).length ≤ 64 := by
  obtain ⟨ρ', S', e, ⟨b4, b5, b6, rfl⟩, hlen, rfl⟩ := forL_pre0 (tg := tgN 10) (body := p__law_form_7) chD (fun q ρ S1 => (∃ b4 b5 b6, ρ = gE r s1 (.ow2 false [A, B, D3 ++ q.flatMap fun y => row3 (reD (h3 f3)) x y ls]) b3 (lsS ls) (.val (.str [x])) s6 s7 s8 (tdS K3 f3) b4 b5 t12 b6) ∧ (q.flatMap fun y => row3 (reD (h3 f3)) x y ls).length ≤ 8 * q.length ∧ S1 = S) ls
    (gE r s1 (.ow2 false [A, B, D3]) b3 (lsS ls) (.val (.str [x])) s6 s7 s8 (tdS K3 f3) s10 s11 t12 s14) S ⟨⟨s10, s11, s14, by simp⟩, Nat.zero_le _, rfl⟩ (by
    rintro q c r' hq ρ S1 ⟨⟨b4, b5, b6, rfl⟩, hlen, rfl⟩
    have hq2 : q.length ≤ 8 := by
      have := congrArg List.length hq
      simp at this; omega
    obtain ⟨c5, c6, e⟩ := form_7 (r := r) (s1 := s1) (b3 := b3) (s6 := s6) (s7 := s7) (s8 := s8) (t12 := t12) (s11 := b5) (s14 := b6) (x := x) (y := c) (A := A) (B := B) (D3 := D3 ++ q.flatMap fun y => row3 (reD (h3 f3)) x y ls) (S := S1) z3 h8 (by
      rw [List.length_append]; omega)
    refine ⟨_, S1, .nx, _, S1, rfl, e, .inl rfl, ⟨.val (.str [c]), c5, c6, ?_⟩, ?_, rfl⟩
    · rw [List.flatMap_append]; simp
    · have := row3_len (f := reD (h3 f3)) (x := x) (y := c) (q := ls)
      rw [List.flatMap_append]
      simp; simp at hlen; omega)
  refine ⟨b4, b5, b6, ?_, by omega⟩
  unfold p__law_form_8
  rw [for_ok it4]
  exact e
theorem loop_8 {r ls : List Nat} {s1 b3 s5 s6 s7 s8 t12 s10 s11 s14 : Sl} {K3 : List (List Nat)} {f3 : List Nat → Int} {S : Store} {A B : List D} (z3 : ZF K3 f3) (h8 : ls.length ≤ 8) :
    ∃ s5' s10' s11' s14', sFor (mItA (mVar 4)) (tgN 5) p__law_form_8 (gE r s1 (.ow2 false [A, B, []]) b3 (.own (ls.map chD)) s5 s6 s7 s8 (tdS K3 f3) s10 s11 t12 s14) S = .ok .nx (gE r s1 (.ow2 false [A, B, (names3 ls).map (reD (h3 f3))]) b3 (lsS ls) s5' s6 s7 s8 (tdS K3 f3) s10' s11' t12 s14') S := by
  obtain ⟨ρ', S', e, ⟨b1, b4, b5, b6, rfl⟩, hlen, rfl⟩ := forL_pre0 (tg := tgN 5) (body := p__law_form_8) chD (fun q ρ S1 => (∃ b1 b4 b5 b6, ρ = gE r s1 (.ow2 false [A, B, q.flatMap fun x => ls.flatMap fun y => row3 (reD (h3 f3)) x y ls]) b3 (lsS ls) b1 s6 s7 s8 (tdS K3 f3) b4 b5 t12 b6) ∧ (q.flatMap fun x => ls.flatMap fun y => row3 (reD (h3 f3)) x y ls).length ≤ 64 * q.length ∧ S1 = S) ls
    (gE r s1 (.ow2 false [A, B, []]) b3 (lsS ls) s5 s6 s7 s8 (tdS K3 f3) s10 s11 t12 s14) S ⟨⟨s5, s10, s11, s14, rfl⟩, Nat.zero_le _, rfl⟩ (by
    rintro q c r' hq ρ S1 ⟨⟨b1, b4, b5, b6, rfl⟩, hlen, rfl⟩
    have hq2 : q.length ≤ 8 := by
      have := congrArg List.length hq
      simp at this; omega
    obtain ⟨c4, c5, c6, e, hl2⟩ := form_8 (r := r) (s1 := s1) (b3 := b3) (s6 := s6) (s7 := s7) (s8 := s8) (t12 := t12) (s10 := b4) (s11 := b5) (s14 := b6) (x := c) (A := A) (B := B) (D3 := q.flatMap fun x => ls.flatMap fun y => row3 (reD (h3 f3)) x y ls) (S := S1) z3 h8 (by omega)
    refine ⟨_, S1, .nx, _, S1, rfl, e, .inl rfl, ⟨.val (.str [c]), c4, c5, c6, ?_⟩, ?_, rfl⟩
    · rw [List.flatMap_append]; simp
    · rw [List.flatMap_append, List.length_append, List.flatMap_cons, List.flatMap_nil, List.append_nil, List.length_append, List.length_cons, List.length_nil]
      omega)
  refine ⟨b1, b4, b5, b6, ?_⟩
  rw [names3_map]
  have e4 : mItA (mVar 4) (gE r s1 (.ow2 false [A, B, []]) b3 (.own (ls.map chD)) s5 s6 s7 s8 (tdS K3 f3) s10 s11 t12 s14) S' = .ok (ls.map chD) (gE r s1 (.ow2 false [A, B, []]) b3 (lsS ls) s5 s6 s7 s8 (tdS K3 f3) s10 s11 t12 s14) S' := rfl
  rw [for_ok e4]
  exact e
/-- what is left of a part -/
def nzD : D → Bool
  | .tup [_, .int n] => decide (n ≠ 0)
  | _ => false
theorem nz_re {f : List Nat → Int} {l : List (List Nat)} : (l.map (reD f)).filter nzD = (l.filter (nz f)).map (reD f) := by
  rw [List.filter_map]
  rfl
theorem form_10 {r : List Nat} {s1 s2 b3 s4 s5 s6 s7 s8 s9 s10 s11 t12 s14 : Sl} {f : List Nat → Int} {l : List (List Nat)} {S : Store} (h1 : UV s1) (hl : l.length < 10000000) :
    p__law_form_10 ((gE r s1 s2 b3 s4 s5 s6 s7 s8 s9 s10 s11 t12 s14).set 13 (.val (.lst (l.map (reD f))))) S = .ok (.tup ((l.filter (nz f)).map (reD f))) ((gE r s1 s2 b3 s4 s5 s6 s7 s8 s9 s10 s11 t12 s14).set 13 (.val (.lst (l.map (reD f))))) S := by
  have e := lc1_filter (ρ := (gE r s1 s2 b3 s4 s5 s6 s7 s8 s9 s10 s11 t12 s14).set 13 (.val (.lst (l.map (reD f))))) (S := S) (v := 1) (mi := mItA (mVar 13)) (tt := p__law_form_9) (te := mVar 1) (ds := l.map (reD f)) (sl := s1) nzD id (itA_ok (d := .lst (l.map (reD f))) (var_ok rfl) rfl) rfl h1 (by rw [List.length_map]; exact hl) (fun d hd => by
    obtain ⟨s, hs, rfl⟩ := List.mem_map.mp hd
    unfold p__law_form_9
    exact cmp_ok (x := .int (f s % 3)) (y := .int 0) (mk_ok (opV_ok (x := reD f s) (y := .int 1) (pk_ok rfl rfl) (mk_ok c_ok) (pg_ok rfl rfl) rfl rfl)) (mk_ok c_ok) rfl rfl (by
      show (some (decide (f s % 3 = 0))).map (!·) = some (decide (f s % 3 ≠ 0))
      by_cases h : f s % 3 = 0
      · simp [h]
      · simp [h])) (fun d hd _ => var_ok rfl)
  rw [List.map_id, nz_re] at e
  unfold p__law_form_10
  exact frz_ok (r := .val (.tup ((l.filter (nz f)).map (reD f)))) (callB1_ok (x := .lst ((l.filter (nz f)).map (reD f))) (mk_ok (frz_ok e)) rfl (fTup_lst _))
theorem nodup_lt {K : List (List Nat)} (h : K.Nodup) : (srtS K).Pairwise (· < ·) := by
  refine ((srtS_pw K).and (srtS_nodup h)).imp fun {a b} q => ?_
  rcases List.le_iff_lt_or_eq.mp q.1 with z | z
  · exact z
  · exact absurd z q.2
theorem plain_mem {s : List Nat} (h : RowL s) {x : Nat} : x ∈ plainL s ↔ x ∈ lettersL s := by
  unfold plainL lettersL
  rw [srtD_mem, List.mem_flatten]
  constructor
  · rintro ⟨l, hl, hx⟩
    obtain ⟨c, hc, rfl⟩ := List.mem_map.mp hl
    refine List.mem_map.mpr ⟨c, hc, ?_⟩
    rw [lo_lo (h c hc)]
    unfold plainC at hx
    split at hx
    · rename_i z
      rw [if_pos z]
      exact (List.mem_singleton.mp hx).symm
    · rename_i z
      rw [if_neg z]
      simp at hx
      exact hx.symm
  · intro hx
    obtain ⟨c, hc, rfl⟩ := List.mem_map.mp hx
    refine ⟨plainC c, List.mem_map.mpr ⟨c, hc, rfl⟩, ?_⟩
    rw [lo_lo (h c hc)]
    unfold plainC
    split <;> simp
theorem plain_lets {s : List Nat} (h : RowL s) : ∀ x, x ∈ plainL s → x ∈ lets := fun x hx => by
  rw [plain_mem h] at hx
  unfold lettersL at hx
  rw [srtD_mem] at hx
  obtain ⟨c, hc, rfl⟩ := List.mem_map.mp hx
  exact lets_mem.mpr (isL_lo (h c hc))
theorem cnt_form {s : List Nat} {K1 K2 K3 : List (List Nat)} {f1 f2 f3 : List Nat → Int} (h : RowL s) (J : Cnt (plainL s) K1 K2 K3 f1 f2 f3) :
    srtS K1 = names1 (lettersL s) ∧ ((names1 (lettersL s)).filter (nz f1)).map (reD f1) = ((names1 (lettersL s)).filter (nz (g1 (plainL s)))).map (reD (g1 (plainL s))) ∧
    (((srtS K2).filter lt2).filter (nz f2)).map (reD f2) = ((names2 (lettersL s)).filter (nz (g2 (plainL s)))).map (reD (g2 (plainL s))) ∧
    ((names3 (lettersL s)).filter (nz (h3 f3))).map (reD (h3 f3)) = ((names3 (lettersL s)).filter (nz (g3 (plainL s)))).map (reD (g3 (plainL s))) := by
  have ha := letters_asc s
  have cg : ∀ {f g : List Nat → Int} {l : List (List Nat)}, (∀ t, t ∈ l → f t = g t) → (l.filter (nz f)).map (reD f) = (l.filter (nz g)).map (reD g) := fun {f g l} hfg => by
    have e1 : l.filter (nz f) = l.filter (nz g) := List.filter_congr fun t ht => by unfold nz; rw [hfg t ht]
    rw [e1]
    refine List.map_congr_left fun t ht => ?_
    unfold reD
    rw [hfg t (List.mem_filter.mp ht).1]
  refine ⟨?_, cg fun t ht => ?_, ?_, cg fun t ht => ?_⟩
  · refine ascS_uniq (nodup_lt J.p1.nd) (names1_asc ha) fun t => ?_
    rw [srtS_mem, names1_mem]
    constructor
    · intro ht
      obtain ⟨x, e, hx⟩ := J.p1.one t ht
      exact ⟨x, e, (plain_mem h).mp hx⟩
    · rintro ⟨x, rfl, hx⟩
      refine Classical.byContradiction fun hn => ?_
      have h0 := J.z1 _ hn
      rw [J.v1] at h0
      have := n1_pos.mpr ((plain_mem h).mpr hx)
      omega
  · obtain ⟨x, rfl, hx⟩ := names1_mem.mp ht
    exact J.v1 x
  · have e1 : ((srtS K2).filter lt2).filter (nz f2) = (names2 (lettersL s)).filter (nz (g2 (plainL s))) := by
      refine ascS_uniq (((nodup_lt J.p2.nd).filter _).filter _) ((names2_asc ha).filter _) fun t => ?_
      simp only [List.mem_filter, srtS_mem, names2_mem]
      constructor
      · rintro ⟨⟨ht, hlt⟩, hn⟩
        obtain ⟨x, y, rfl, hne, hx, hy⟩ := J.p2.two t ht
        have hxy : x < y := of_decide_eq_true hlt
        have hv := J.v2 x y hne
        have hn2 : nz (g2 (plainL s)) [x, y] = true := by unfold nz at hn ⊢; rw [hv] at hn; exact hn
        refine ⟨⟨x, y, rfl, ?_, ?_, hxy⟩, hn2⟩
        · refine Classical.byContradiction fun hz => ?_
          have hn3 : decide (((n2 x y (plainL s) : Nat) : Int) % 3 ≠ 0) = true := hn2
          rw [n2_zero (.inl fun q => hz ((plain_mem h).mp q))] at hn3
          exact absurd hn3 (by decide)
        · refine Classical.byContradiction fun hz => ?_
          have hn3 : decide (((n2 x y (plainL s) : Nat) : Int) % 3 ≠ 0) = true := hn2
          rw [n2_zero (.inr fun q => hz ((plain_mem h).mp q))] at hn3
          exact absurd hn3 (by decide)
      · rintro ⟨⟨x, y, rfl, hx, hy, hxy⟩, hn⟩
        have hv := J.v2 x y (by omega)
        have hn2 : nz f2 [x, y] = true := by unfold nz at hn ⊢; rw [hv]; exact hn
        refine ⟨⟨?_, decide_eq_true hxy⟩, hn2⟩
        refine Classical.byContradiction fun hz => ?_
        unfold nz at hn2
        rw [J.z2 _ hz] at hn2
        exact absurd hn2 (by decide)
    rw [e1]
    refine List.map_congr_left fun t ht => ?_
    obtain ⟨x, y, rfl, hx, hy, hxy⟩ := names2_mem.mp (List.mem_filter.mp ht).1
    unfold reD
    rw [J.v2 x y (by omega)]
    rfl
  · obtain ⟨x, y, z, rfl, hx, hy, hz, hxy, hyz⟩ := names3_mem.mp ht
    show f3 [x, y, z] - f3 [y, x, z] = (n3 x y z (plainL s) : Nat) - (n3 y x z (plainL s) : Nat)
    rw [J.v3 x y z (by omega) (by omega) (by omega), J.v3 y x z (by omega) (by omega) (by omega)]
theorem lform_spec {s : List Nat} {S : Store} (h : RowL s) (hl : s.length < 4000) : m__law_form [.str s] S = .ok (.val (formD s)) S := by
  have h8 := letters_len h
  have hp := plain2_spec (S := S) h (by omega)
  have hpl := plainL_len s
  obtain ⟨s1, b3, t12, K1, K2, K3, f1, f2, f3, eA, hb, hs1, J⟩ := count_loop (r := s) (p := plainL s) (S := S) (plain_lets h) (by omega)
  obtain ⟨c1, c2, c3, c4⟩ := cnt_form h J
  have l1 := J.p1.len (plain_lets h)
  have hb' : UV b3 := hb.imp id fun ⟨t, e⟩ => ⟨_, e⟩
  have eB0 := lc1_map (ρ := gE s s1 .un b3 .un .un (.val (.str (plainL s))) (tdS K1 f1) (tdS K2 f2) (tdS K3 f3) .un .un t12 .un) (S := S) (v := 3) (te := p__law_form_4) (fun d => match d with | .str t => reD f1 t | d => d) (itsort_td (j := 7) (K := K1) (f := f1) rfl (by omega)) rfl hb' (by rw [List.length_map, (srtS_perm K1).length_eq]; omega) (fun d hd => by
    obtain ⟨t, ht, rfl⟩ := List.mem_map.mp hd
    exact form_4 (srtS_mem.mp ht))
  have em : ((srtS K1).map D.str).map (fun d => match d with | .str t => reD f1 t | d => d) = (names1 (lettersL s)).map (reD f1) := by
    rw [List.map_map, c1]; rfl
  rw [em] at eB0
  have eB : sSet 2 (mL2 (mLCons (mLC [3] (mItA (M.frz (mCallB fSort (mKCons (mPk 7) mKNil)))) (tgN 3) mYes p__law_form_4) (mLCons (mLst mNil) (mLCons (mLst mNil) mLNil)))) (gE s s1 .un b3 .un .un (.val (.str (plainL s))) (tdS K1 f1) (tdS K2 f2) (tdS K3 f3) .un .un t12 .un) S =
      .ok .nx (gE s s1 (.ow2 false [(names1 (lettersL s)).map (reD f1), [], []]) b3 .un .un (.val (.str (plainL s))) (tdS K1 f1) (tdS K2 f2) (tdS K3 f3) .un .un t12 .un) S := by
    refine set_ok (ρ1 := gE s s1 .un b3 .un .un (.val (.str (plainL s))) (tdS K1 f1) (tdS K2 f2) (tdS K3 f3) .un .un t12 .un) (r := .ow2 false [(names1 (lettersL s)).map (reD f1), [], []]) ?h ?i
    case i => simp
    have e3 : mLCons (mLC [3] (mItA (M.frz (mCallB fSort (mKCons (mPk 7) mKNil)))) (tgN 3) mYes p__law_form_4) (mLCons (mLst mNil) (mLCons (mLst mNil) mLNil)) (gE s s1 .un b3 .un .un (.val (.str (plainL s))) (tdS K1 f1) (tdS K2 f2) (tdS K3 f3) .un .un t12 .un) S = .ok [(names1 (lettersL s)).map (reD f1), [], []] (gE s s1 .un b3 .un .un (.val (.str (plainL s))) (tdS K1 f1) (tdS K2 f2) (tdS K3 f3) .un .un t12 .un) S := by
      unfold mLCons
      rw [b_ok eB0]
      rfl
    unfold mL2
    rw [b_ok e3]
    try dsimp only
    rw [if_pos (by rw [SZ_is]; exact (by decide : 3 < 16777216))]
    rfl
  obtain ⟨b3', hb3, eC⟩ := loop_5 (r := s) (s1 := s1) (b3 := b3) (s6 := .val (.str (plainL s))) (s7 := tdS K1 f1) (s9 := tdS K3 f3) (t12 := t12) (K2 := K2) (f2 := f2) (S := S) (A := (names1 (lettersL s)).map (reD f1)) J.p2 hb'
  have eD : sSet 4 (mCallB fSort (mKCons (mPk 7) mKNil)) (gE s s1 (.ow2 false [(names1 (lettersL s)).map (reD f1), ((srtS K2).filter lt2).map (reD f2), []]) b3' .un .un (.val (.str (plainL s))) (tdS K1 f1) (tdS K2 f2) (tdS K3 f3) .un .un t12 .un) S =
      .ok .nx (gE s s1 (.ow2 false [(names1 (lettersL s)).map (reD f1), ((srtS K2).filter lt2).map (reD f2), []]) b3' (.own ((lettersL s).map chD)) .un (.val (.str (plainL s))) (tdS K1 f1) (tdS K2 f2) (tdS K3 f3) .un .un t12 .un) S := by
    refine set_ok (ρ1 := gE s s1 (.ow2 false [(names1 (lettersL s)).map (reD f1), ((srtS K2).filter lt2).map (reD f2), []]) b3' .un .un (.val (.str (plainL s))) (tdS K1 f1) (tdS K2 f2) (tdS K3 f3) .un .un t12 .un) (r := .own ((lettersL s).map chD)) ?h2 ?i2
    case i2 => simp
    have := sortpk_td (ρ := gE s s1 (.ow2 false [(names1 (lettersL s)).map (reD f1), ((srtS K2).filter lt2).map (reD f2), []]) b3' .un .un (.val (.str (plainL s))) (tdS K1 f1) (tdS K2 f2) (tdS K3 f3) .un .un t12 .un) (S := S) (j := 7) (K := K1) (f := f1) rfl (by omega)
    rw [this, c1]
    unfold names1
    rw [List.map_map]
    rfl
  obtain ⟨s5', s10', s11', s14', eE⟩ := loop_8 (r := s) (ls := lettersL s) (s1 := s1) (b3 := b3') (s5 := .un) (s6 := .val (.str (plainL s))) (s7 := tdS K1 f1) (s8 := tdS K2 f2) (t12 := t12) (s10 := .un) (s11 := .un) (s14 := .un) (K3 := K3) (f3 := f3) (S := S) (A := (names1 (lettersL s)).map (reD f1)) (B := ((srtS K2).filter lt2).map (reD f2)) J.z3 h8
  let found : D := .lst [.lst ((names1 (lettersL s)).map (reD f1)), .lst (((srtS K2).filter lt2).map (reD f2)), .lst ((names3 (lettersL s)).map (reD (h3 f3)))]
  have h56 := J.p2.len
  have l2 : ((srtS K2).filter lt2).length < 10000000 := by
    have := List.length_filter_le lt2 (srtS K2)
    rw [(srtS_perm K2).length_eq] at this; omega
  have l3 := names3_len h8
  have ln1 : (names1 (lettersL s)).length < 10000000 := by unfold names1; rw [List.length_map]; omega
  have eF0 := lc1_map (ρ := gE s s1 (.val found) b3' (lsS (lettersL s)) s5' (.val (.str (plainL s))) (tdS K1 f1) (tdS K2 f2) (tdS K3 f3) s10' s11' t12 s14') (S := S) (v := 13) (mi := mItA (mVar 2)) (te := p__law_form_10) (ds := [.lst ((names1 (lettersL s)).map (reD f1)), .lst (((srtS K2).filter lt2).map (reD f2)), .lst ((names3 (lettersL s)).map (reD (h3 f3)))]) (sl := .un) (fun d => match d with | .lst xs => .tup (xs.filter nzD) | d => d) (itA_ok (d := found) (var_ok rfl) rfl) rfl (.inl rfl) (by simp) (fun d hd => by
    have hd' : d = .lst ((names1 (lettersL s)).map (reD f1)) ∨ d = .lst (((srtS K2).filter lt2).map (reD f2)) ∨ d = .lst ((names3 (lettersL s)).map (reD (h3 f3))) := by simpa using hd
    rcases hd' with rfl | rfl | rfl
    · dsimp only; rw [nz_re]; exact form_10 hs1 ln1
    · dsimp only; rw [nz_re]; exact form_10 hs1 l2
    · dsimp only; rw [nz_re]; exact form_10 hs1 (by omega))
  have em2 : ([.lst ((names1 (lettersL s)).map (reD f1)), .lst (((srtS K2).filter lt2).map (reD f2)), .lst ((names3 (lettersL s)).map (reD (h3 f3)))] : List D).map (fun d => match d with | .lst xs => .tup (xs.filter nzD) | d => d) = [partD (g1 (plainL s)) (names1 (lettersL s)), partD (g2 (plainL s)) (names2 (lettersL s)), partD (g3 (plainL s)) (names3 (lettersL s))] := by
    simp only [List.map_cons, List.map_nil, nz_re, c2, c3, c4]
    rfl
  rw [em2] at eF0
  have eF1 : mLC [13] (mItA (mVar 2)) (tgN 13) mYes p__law_form_10 (gE s s1 (.ow2 false [(names1 (lettersL s)).map (reD f1), ((srtS K2).filter lt2).map (reD f2), (names3 (lettersL s)).map (reD (h3 f3))]) b3' (lsS (lettersL s)) s5' (.val (.str (plainL s))) (tdS K1 f1) (tdS K2 f2) (tdS K3 f3) s10' s11' t12 s14') S = .ok (.own [partD (g1 (plainL s)) (names1 (lettersL s)), partD (g2 (plainL s)) (names2 (lettersL s)), partD (g3 (plainL s)) (names3 (lettersL s))]) (gE s s1 (.val found) b3' (lsS (lettersL s)) s5' (.val (.str (plainL s))) (tdS K1 f1) (tdS K2 f2) (tdS K3 f3) s10' s11' t12 s14') S := by
    refine Eq.trans ?_ eF0
    unfold mLC
    have e1 : mItA (mVar 2) (gE s s1 (.ow2 false [(names1 (lettersL s)).map (reD f1), ((srtS K2).filter lt2).map (reD f2), (names3 (lettersL s)).map (reD (h3 f3))]) b3' (lsS (lettersL s)) s5' (.val (.str (plainL s))) (tdS K1 f1) (tdS K2 f2) (tdS K3 f3) s10' s11' t12 s14') S = .ok [.lst ((names1 (lettersL s)).map (reD f1)), .lst (((srtS K2).filter lt2).map (reD f2)), .lst ((names3 (lettersL s)).map (reD (h3 f3)))] (gE s s1 (.val found) b3' (lsS (lettersL s)) s5' (.val (.str (plainL s))) (tdS K1 f1) (tdS K2 f2) (tdS K3 f3) s10' s11' t12 s14') S := rfl
    have e2 : mItA (mVar 2) (gE s s1 (.val found) b3' (lsS (lettersL s)) s5' (.val (.str (plainL s))) (tdS K1 f1) (tdS K2 f2) (tdS K3 f3) s10' s11' t12 s14') S = .ok [.lst ((names1 (lettersL s)).map (reD f1)), .lst (((srtS K2).filter lt2).map (reD f2)), .lst ((names3 (lettersL s)).map (reD (h3 f3)))] (gE s s1 (.val found) b3' (lsS (lettersL s)) s5' (.val (.str (plainL s))) (tdS K1 f1) (tdS K2 f2) (tdS K3 f3) s10' s11' t12 s14') S := rfl
    rw [b_ok e1, b_ok e2]
  have eF : sRet (mCallB fTuple (mKCons (mK (M.frz (mLC [13] (mItA (mVar 2)) (tgN 13) mYes p__law_form_10))) mKNil)) (gE s s1 (.ow2 false [(names1 (lettersL s)).map (reD f1), ((srtS K2).filter lt2).map (reD f2), (names3 (lettersL s)).map (reD (h3 f3))]) b3' (lsS (lettersL s)) s5' (.val (.str (plainL s))) (tdS K1 f1) (tdS K2 f2) (tdS K3 f3) s10' s11' t12 s14') S = .ok (.rt (.val (formD s))) (gE s s1 (.val found) b3' (lsS (lettersL s)) s5' (.val (.str (plainL s))) (tdS K1 f1) (tdS K2 f2) (tdS K3 f3) s10' s11' t12 s14') S := by
    unfold sRet
    rw [b_ok (callB1_ok (f := fTuple) (r := .val (formD s)) (x := .lst [partD (g1 (plainL s)) (names1 (lettersL s)), partD (g2 (plainL s)) (names2 (lettersL s)), partD (g3 (plainL s)) (names3 (lettersL s))]) (mk_ok (frz_ok eF1)) rfl rfl)]
    rfl
  have e0 : sPars [6, 7, 8, 9] (rCons (mCall0 m__law_plain (mCons (mVar 0) mNil)) (rCons mDNew (rCons mDNew (rCons mDNew rNil)))) [.val (.str s), .un, .un, .un, .un, .un, .un, .un, .un, .un, .un, .un, .un, .un, .un] S = .ok .nx (fE s .un .un (.val (.str (plainL s))) (tdS [] fun _ => 0) (tdS [] fun _ => 0) (tdS [] fun _ => 0) .un) S := by
    simp [sPars, rCons, rNil, M.bind, M.ret, mCall0, mCons, mNil, mVar, hp, mDNew, putRVs, RV.toSl]
  have eM : e__law_form [.val (.str s), .un, .un, .un, .un, .un, .un, .un, .un, .un, .un, .un, .un, .un, .un] S = .ok (.rt (.val (formD s))) (gE s s1 (.val found) b3' (lsS (lettersL s)) s5' (.val (.str (plainL s))) (tdS K1 f1) (tdS K2 f2) (tdS K3 f3) s10' s11' t12 s14') S :=
    (seq_nx e0).trans ((seq_nx eA).trans ((seq_nx eB).trans ((seq_nx eC).trans ((seq_nx eD).trans ((seq_nx eE).trans eF)))))
  exact def_rt (r := .val (formD s)) rfl eM
end Thr
namespace Thr

/-! ### rows one behind another -/
theorem r1_app (x : Nat) : ∀ a b : List Nat, r1 x (a ++ b) = r1 x a + r1 x b
  | [], b => by simp [r1]
  | c :: a, b => by
    show r1 x (a ++ b) + b2n (c == x) = _
    rw [r1_app x a b]
    show _ = r1 x a + b2n (c == x) + r1 x b
    omega
theorem r2_app (x y : Nat) : ∀ a b : List Nat, r2 x y (a ++ b) = r2 x y a + r2 x y b + r1 x b * r1 y a
  | [], b => by simp [r2, r1]
  | c :: a, b => by
    show r2 x y (a ++ b) + r1 x (a ++ b) * b2n (c == y) = _
    rw [r2_app x y a b, r1_app]
    show _ = r2 x y a + r1 x a * b2n (c == y) + r2 x y b + r1 x b * (r1 y a + b2n (c == y))
    rw [Nat.add_mul, Nat.mul_add]
    omega
theorem r3_app (x y z : Nat) : ∀ a b : List Nat, r3 x y z (a ++ b) = r3 x y z a + r3 x y z b + r2 x y b * r1 z a + r1 x b * r2 y z a
  | [], b => by simp [r3, r2, r1]
  | c :: a, b => by
    show r3 x y z (a ++ b) + r2 x y (a ++ b) * b2n (c == z) = _
    rw [r3_app x y z a b, r2_app]
    show _ = r3 x y z a + r2 x y a * b2n (c == z) + r3 x y z b + r2 x y b * (r1 z a + b2n (c == z)) + r1 x b * (r2 y z a + r1 y a * b2n (c == z))
    rw [Nat.add_mul, Nat.add_mul, Nat.mul_add, Nat.mul_add, Nat.mul_assoc]
    omega
theorem n1_app (x : Nat) (p q : List Nat) : n1 x (p ++ q) = n1 x p + n1 x q := by
  unfold n1
  rw [List.reverse_append, r1_app]
  omega
theorem n2_app (x y : Nat) (p q : List Nat) : n2 x y (p ++ q) = n2 x y p + n2 x y q + n1 x p * n1 y q := by
  unfold n2 n1
  rw [List.reverse_append, r2_app]
  omega
theorem n3_app (x y z : Nat) (p q : List Nat) : n3 x y z (p ++ q) = n3 x y z p + n3 x y z q + n2 x y p * n1 z q + n1 x p * n2 y z q := by
  unfold n3 n2 n1
  rw [List.reverse_append, r3_app]
  omega
/-! ### the same by threes -/
def cg (a b : Int) : Prop := ∃ k : Int, a = b + 3 * k
theorem cg.refl (a : Int) : cg a a := ⟨0, by omega⟩
theorem cg.symm {a b : Int} (h : cg a b) : cg b a := by obtain ⟨k, e⟩ := h; exact ⟨-k, by omega⟩
theorem cg.trans {a b c : Int} (h : cg a b) (h' : cg b c) : cg a c := by
  obtain ⟨k, e⟩ := h
  obtain ⟨l, e'⟩ := h'
  exact ⟨k + l, by omega⟩
theorem cg.add {a b c d : Int} (h : cg a b) (h' : cg c d) : cg (a + c) (b + d) := by
  obtain ⟨k, e⟩ := h
  obtain ⟨l, e'⟩ := h'
  exact ⟨k + l, by omega⟩
theorem cg.sub {a b c d : Int} (h : cg a b) (h' : cg c d) : cg (a - c) (b - d) := by
  obtain ⟨k, e⟩ := h
  obtain ⟨l, e'⟩ := h'
  exact ⟨k - l, by omega⟩
theorem cg.mul {a b c d : Int} (h : cg a b) (h' : cg c d) : cg (a * c) (b * d) := by
  obtain ⟨k, e⟩ := h
  obtain ⟨l, e'⟩ := h'
  refine ⟨b * l + k * d + 3 * (k * l), ?_⟩
  subst e; subst e'
  simp only [Int.add_mul, Int.mul_add, Int.mul_assoc, Int.mul_left_comm (3 : Int)]
  omega
theorem cg.emod {a b : Int} (h : cg a b) : a % 3 = b % 3 := by
  obtain ⟨k, e⟩ := h
  subst e; omega
theorem cg_of {a b : Int} (h : a % 3 = b % 3) : cg a b := ⟨a / 3 - b / 3, by omega⟩
theorem cg3 (k : Int) : cg (3 * k) 0 := ⟨k, by omega⟩
def G3 (x y z : Nat) (p : List Nat) : Int := (n3 x y z p : Nat) - (n3 y x z p : Nat)
theorem G3_app (x y z : Nat) (p q : List Nat) : G3 x y z (p ++ q) = G3 x y z p + G3 x y z q + ((n2 x y p : Nat) - (n2 y x p : Nat) : Int) * (n1 z q : Nat) + ((n1 x p : Nat) * (n2 y z q : Nat) - (n1 y p : Nat) * (n2 x z q : Nat) : Int) := by
  unfold G3
  rw [n3_app, n3_app, Int.sub_mul]
  simp only [Int.natCast_add, Int.natCast_mul]
  omega
/-- rows that count the same -/
structure EqC (p q : List Nat) : Prop where
  e1 : ∀ x, cg (n1 x p : Nat) (n1 x q : Nat)
  e2 : ∀ x y, x ≠ y → cg (n2 x y p : Nat) (n2 x y q : Nat)
  e3 : ∀ x y z, x ≠ y → x ≠ z → y ≠ z → cg (G3 x y z p) (G3 x y z q)
theorem EqC.refl (p : List Nat) : EqC p p := ⟨fun _ => cg.refl _, fun _ _ _ => cg.refl _, fun _ _ _ _ _ _ => cg.refl _⟩
theorem EqC.symm {p q : List Nat} (h : EqC p q) : EqC q p := ⟨fun x => (h.e1 x).symm, fun x y n => (h.e2 x y n).symm, fun x y z a b c => (h.e3 x y z a b c).symm⟩
theorem EqC.trans {p q r : List Nat} (h : EqC p q) (h' : EqC q r) : EqC p r := ⟨fun x => (h.e1 x).trans (h'.e1 x), fun x y n => (h.e2 x y n).trans (h'.e2 x y n), fun x y z a b c => (h.e3 x y z a b c).trans (h'.e3 x y z a b c)⟩
theorem EqC.app {p p' q q' : List Nat} (h : EqC p p') (h' : EqC q q') : EqC (p ++ q) (p' ++ q') := by
  refine ⟨fun x => ?_, fun x y n => ?_, fun x y z a b c => ?_⟩
  · rw [n1_app, n1_app, Int.natCast_add, Int.natCast_add]
    exact (h.e1 x).add (h'.e1 x)
  · rw [n2_app, n2_app]
    simp only [Int.natCast_add, Int.natCast_mul]
    exact ((h.e2 x y n).add (h'.e2 x y n)).add ((h.e1 x).mul (h'.e1 y))
  · rw [G3_app, G3_app]
    exact (((h.e3 x y z a b c).add (h'.e3 x y z a b c)).add (((h.e2 x y a).sub (h.e2 y x (Ne.symm a))).mul (h'.e1 z))).add (((h.e1 x).mul (h'.e2 y z c)).sub ((h.e1 y).mul (h'.e2 x z b)))
theorem G3_nil {x y z : Nat} : G3 x y z [] = 0 := rfl
/-- three times the same is nothing -/
theorem eqC_cube (w : List Nat) : EqC (w ++ (w ++ w)) [] := by
  refine ⟨fun x => ?_, fun x y n => ?_, fun x y z a b c => ?_⟩
  · rw [n1_app, n1_app, n1_nil]
    exact ⟨(n1 x w : Nat), by omega⟩
  · rw [n2_app, n2_app, n1_app, n2_nil]
    refine ⟨(n2 x y w : Nat) + (n1 x w : Nat) * (n1 y w : Nat), ?_⟩
    simp only [Int.natCast_add, Int.natCast_mul, Int.mul_add]
    omega
  · rw [G3_app, G3_app, G3_nil, n1_app, n2_app, n2_app]
    simp only [Int.natCast_add, Int.natCast_mul, Int.mul_add, Int.sub_mul]
    refine ⟨G3 x y z w + ((n2 x y w : Nat) * (n1 z w : Nat) - (n2 y x w : Nat) * (n1 z w : Nat)) + ((n1 x w : Nat) * (n2 y z w : Nat) - (n1 y w : Nat) * (n2 x z w : Nat)), ?_⟩
    have e : ((n1 x w : Nat) : Int) * ((n1 y w : Nat) * (n1 z w : Nat)) = (n1 y w : Nat) * ((n1 x w : Nat) * (n1 z w : Nat)) := Int.mul_left_comm ..
    omega
/-- so many times -/
def rep (w : List Nat) : Nat → List Nat
  | 0 => []
  | k + 1 => w ++ rep w k
theorem rep3 (w : List Nat) (k : Nat) : EqC (rep w (k + 3)) (rep w k) := by
  have e : rep w (k + 3) = (w ++ (w ++ w)) ++ rep w k := by simp [rep]
  rw [e]
  have := (eqC_cube w).app (EqC.refl (rep w k))
  simpa using this
theorem rep_mod (w : List Nat) : ∀ k : Nat, EqC (rep w k) (rep w (k % 3))
  | 0 => EqC.refl _
  | 1 => EqC.refl _
  | 2 => EqC.refl _
  | k + 3 => by
    have ih := rep_mod w k
    have : (k + 3) % 3 = k % 3 := by omega
    rw [this]
    exact (rep3 w k).trans ih
/-! ### one order of two or three letters tells the others -/
theorem r2_sum {x y : Nat} (h : x ≠ y) : ∀ p : List Nat, r2 x y p + r2 y x p = r1 x p * r1 y p
  | [] => rfl
  | c :: p => by
    have ih := r2_sum h p
    show r2 x y p + r1 x p * b2n (c == y) + (r2 y x p + r1 y p * b2n (c == x)) = (r1 x p + b2n (c == x)) * (r1 y p + b2n (c == y))
    have z : b2n (c == x) * b2n (c == y) = 0 := by
      unfold b2n
      by_cases h1 : c = x
      · have h2 : ¬ c = y := fun e => h (h1.symm.trans e)
        simp [h2]
      · simp [h1]
    rw [Nat.add_mul, Nat.mul_add, Nat.mul_add, z, Nat.mul_comm (b2n (c == x))]
    omega
theorem r3_sum {x y z : Nat} (h1 : x ≠ y) (h2 : y ≠ z) : ∀ p : List Nat, r3 y x z p + r3 x y z p + r3 x z y p = r1 y p * r2 x z p
  | [] => rfl
  | c :: p => by
    have ih := r3_sum h1 h2 p
    have s := r2_sum h1 p
    show r3 y x z p + r2 y x p * b2n (c == z) + (r3 x y z p + r2 x y p * b2n (c == z)) + (r3 x z y p + r2 x z p * b2n (c == y)) = (r1 y p + b2n (c == y)) * (r2 x z p + r1 x p * b2n (c == z))
    have z0 : b2n (c == y) * (r1 x p * b2n (c == z)) = 0 := by
      unfold b2n
      by_cases h3 : c = y
      · have h4 : ¬ c = z := fun e => h2 (h3.symm.trans e)
        simp [h4]
      · simp [h3]
    rw [Nat.add_mul, Nat.mul_add, Nat.mul_add, z0, ← ih, Nat.mul_comm (b2n (c == y)), ← Nat.mul_assoc, Nat.mul_comm (r1 y p) (r1 x p), ← s, Nat.add_mul]
    omega
theorem n2_sum {x y : Nat} (h : x ≠ y) (p : List Nat) : n2 x y p + n2 y x p = n1 x p * n1 y p := r2_sum h _
theorem n3_sum {x y z : Nat} (h1 : x ≠ y) (h2 : y ≠ z) (p : List Nat) : n3 y x z p + n3 x y z p + n3 x z y p = n1 y p * n2 x z p := r3_sum h1 h2 _
theorem G3_neg (x y z : Nat) (p : List Nat) : G3 y x z p = - G3 x y z p := by unfold G3; omega
theorem G3_swap {x y z : Nat} (h1 : x ≠ y) (h2 : y ≠ z) (h3 : x ≠ z) (p : List Nat) : cg (G3 x z y p) (2 * ((n1 y p : Nat) * (n2 x z p : Nat)) - (n1 z p : Nat) * (n2 x y p : Nat) - G3 x y z p) := by
  have a := n3_sum h1 h2 p
  have b := n3_sum h3 (Ne.symm h2) p
  have a' : ((n3 y x z p : Nat) : Int) + (n3 x y z p : Nat) + (n3 x z y p : Nat) = (n1 y p : Nat) * (n2 x z p : Nat) := by
    rw [← Int.natCast_mul, ← a]; simp
  have b' : ((n3 z x y p : Nat) : Int) + (n3 x z y p : Nat) + (n3 x y z p : Nat) = (n1 z p : Nat) * (n2 x y p : Nat) := by
    rw [← Int.natCast_mul, ← b]; simp
  unfold G3
  refine ⟨- ((n3 y x z p : Nat) : Int), ?_⟩
  omega
/-- counts in order are enough -/
theorem eqC_of {p q : List Nat} (h1 : ∀ x, cg (n1 x p : Nat) (n1 x q : Nat)) (h2 : ∀ x y, x < y → cg (n2 x y p : Nat) (n2 x y q : Nat)) (h3 : ∀ x y z, x < y → y < z → cg (G3 x y z p) (G3 x y z q)) : EqC p q := by
  have e2 : ∀ x y, x ≠ y → cg (n2 x y p : Nat) (n2 x y q : Nat) := fun x y n => by
    rcases Nat.lt_or_gt_of_ne n with l | l
    · exact h2 x y l
    · have a : ((n2 x y p : Nat) : Int) = (n1 x p : Nat) * (n1 y p : Nat) - (n2 y x p : Nat) := by
        rw [← Int.natCast_mul, ← n2_sum n p]; simp
      have b : ((n2 x y q : Nat) : Int) = (n1 x q : Nat) * (n1 y q : Nat) - (n2 y x q : Nat) := by
        rw [← Int.natCast_mul, ← n2_sum n q]; simp
      rw [a, b]
      exact ((h1 x).mul (h1 y)).sub (h2 y x l)
  have sw : ∀ {x y z : Nat}, x ≠ y → y ≠ z → x ≠ z → cg (G3 x y z p) (G3 x y z q) → cg (G3 x z y p) (G3 x z y q) := fun {x y z} a b c h =>
    (G3_swap a b c p).trans (((((cg.refl 2).mul ((h1 y).mul (e2 x z c))).sub ((h1 z).mul (e2 x y a))).sub h).trans (G3_swap a b c q).symm)
  have ng : ∀ {x y z : Nat}, cg (G3 x y z p) (G3 x y z q) → cg (G3 y x z p) (G3 y x z q) := fun {x y z} h => by
    rw [G3_neg x y z p, G3_neg x y z q]
    have := (cg.refl 0).sub h
    simpa using this
  refine ⟨h1, e2, fun x y z a b c => ?_⟩
  rcases Nat.lt_or_gt_of_ne a with l | l
  · rcases Nat.lt_or_gt_of_ne c with m | m
    · exact h3 x y z l m
    · rcases Nat.lt_or_gt_of_ne b with k | k
      · exact sw (by omega) (by omega) (by omega) (h3 x z y k m)
      · have := h3 z x y k l
        exact sw (by omega) (by omega) (by omega) (ng this)
  · rcases Nat.lt_or_gt_of_ne b with m | m
    · exact ng (h3 y x z l m)
    · rcases Nat.lt_or_gt_of_ne c with k | k
      · have := h3 y z x k m
        exact ng (sw (by omega) (by omega) (by omega) this)
      · have := h3 z y x k l
        exact ng (sw (by omega) (by omega) (by omega) (ng this))
/-! ### rows that commute with all letters -/
structure Cen (p : List Nat) : Prop where
  c1 : ∀ x, cg (n1 x p : Nat) 0
  c2 : ∀ x y, x ≠ y → cg (n2 x y p : Nat) 0
theorem cg0_mul {a : Int} (h : cg a 0) (b : Int) : cg (a * b) 0 := by
  have := h.mul (cg.refl b)
  simpa using this
theorem cg0_mul' {a : Int} (h : cg a 0) (b : Int) : cg (b * a) 0 := by
  rw [Int.mul_comm]
  exact cg0_mul h b
theorem Cen.com {p : List Nat} (h : Cen p) (q : List Nat) : EqC (p ++ q) (q ++ p) := by
  refine ⟨fun x => ?_, fun x y n => ?_, fun x y z a b c => ?_⟩
  · rw [n1_app, n1_app, Nat.add_comm]
    exact cg.refl _
  · rw [n2_app, n2_app]
    simp only [Int.natCast_add, Int.natCast_mul]
    have e1 := cg0_mul (h.c1 x) (n1 y q : Nat)
    have e2 := cg0_mul' (h.c1 y) (n1 x q : Nat)
    obtain ⟨k, hk⟩ := e1
    obtain ⟨l, hl⟩ := e2
    exact ⟨k - l, by omega⟩
  · rw [G3_app, G3_app]
    have e1 := cg0_mul ((h.c2 x y a).sub (h.c2 y x (Ne.symm a))) (n1 z q : Nat)
    have e2 := cg0_mul (h.c1 x) (n2 y z q : Nat)
    have e3 := cg0_mul (h.c1 y) (n2 x z q : Nat)
    have e4 := cg0_mul' (h.c1 z) ((n2 x y q : Nat) - (n2 y x q : Nat) : Int)
    have e5 := cg0_mul' (h.c2 y z c) (n1 x q : Nat)
    have e6 := cg0_mul' (h.c2 x z b) (n1 y q : Nat)
    obtain ⟨k1, h1⟩ := e1
    obtain ⟨k2, h2⟩ := e2
    obtain ⟨k3, h3⟩ := e3
    obtain ⟨k4, h4⟩ := e4
    obtain ⟨k5, h5⟩ := e5
    obtain ⟨k6, h6⟩ := e6
    exact ⟨k1 + k2 - k3 - k4 - k5 + k6, by omega⟩
theorem n1_one (x c : Nat) : n1 x [c] = b2n (c == x) := by
  show 0 + b2n (c == x) = _
  omega
theorem n2_one (x y c : Nat) : n2 x y [c] = 0 := by
  show 0 + 0 * b2n (c == y) = 0
  omega
theorem G3_one (x y z c : Nat) : G3 x y z [c] = 0 := by
  have h : ∀ x y z : Nat, n3 x y z [c] = 0 := fun x y z => by
    show 0 + 0 * b2n (c == z) = 0
    omega
  unfold G3
  rw [h, h]; rfl
theorem b2n_ne {c x : Nat} (h : c ≠ x) : b2n (c == x) = 0 := by unfold b2n; simp [h]
theorem b2n_self (c : Nat) : b2n (c == c) = 1 := by unfold b2n; simp
theorem com_cen {p L : List Nat} (hp : ∀ x, x ∈ p → x ∈ L) (h1 : ∀ x, ∃ c, c ∈ L ∧ c ≠ x) (h2 : ∀ x y, ∃ c, c ∈ L ∧ c ≠ x ∧ c ≠ y) (h : ∀ c, c ∈ L → EqC (p ++ [c]) ([c] ++ p)) : Cen p := by
  have k1 : ∀ x, cg (n1 x p : Nat) 0 := fun x => by
    obtain ⟨c, hc, hx⟩ := h1 x
    have := (h c hc).e2 x c (Ne.symm hx)
    rw [n2_app, n2_app, n2_one, n1_one, n1_one, b2n_self, b2n_ne hx] at this
    obtain ⟨k, hk⟩ := this
    exact ⟨k, by omega⟩
  refine ⟨k1, fun x y n => ?_⟩
  obtain ⟨c, hc, hx, hy⟩ := h2 x y
  have e := (h c hc).e3 x y c n (Ne.symm hx) (Ne.symm hy)
  rw [G3_app, G3_app, G3_one, n2_one, n2_one, n2_one, n2_one, n1_one, n1_one, n1_one, b2n_self, b2n_ne hx, b2n_ne hy] at e
  have s := n2_sum n p
  have m := cg0_mul (k1 x) (n1 y p : Nat)
  rw [← Int.natCast_mul, ← s] at m
  obtain ⟨k, hk⟩ := e
  obtain ⟨l, hl⟩ := m
  refine ⟨(n2 x y p : Nat) - (k + l), ?_⟩
  simp only [Int.natCast_add] at hl
  simp at hk
  omega
end Thr
namespace Thr
open PySem PySem.Spec PyProof.Rows L2 RZ Sh

/-! ### forms of rows that count the same -/
theorem nz_cg {f g : List Nat → Int} {s : List Nat} (h : cg (f s) (g s)) : nz f s = nz g s ∧ reD f s = reD g s := by
  unfold nz reD
  rw [h.emod]
  exact ⟨rfl, rfl⟩
theorem nz_zero {f : List Nat → Int} {s : List Nat} (h : f s = 0) : nz f s = false := by
  unfold nz
  rw [h]; rfl
theorem part_eq {f g : List Nat → Int} {l m : List (List Nat)} (hl : l.Pairwise (· < ·)) (hm : m.Pairwise (· < ·)) (h1 : ∀ s, s ∈ l → cg (f s) (g s)) (h2 : ∀ s, s ∈ l → ¬ s ∈ m → g s = 0) (h3 : ∀ s, s ∈ m → ¬ s ∈ l → g s = 0 ∨ cg (f s) (g s) ∧ f s = 0) : partD f l = partD g m := by
  have e : l.filter (nz f) = m.filter (nz g) := by
    refine ascS_uniq (hl.filter _) (hm.filter _) fun s => ?_
    rw [List.mem_filter, List.mem_filter]
    constructor
    · rintro ⟨a, b⟩
      rw [(nz_cg (h1 s a)).1] at b
      refine ⟨Classical.byContradiction fun hn => ?_, b⟩
      rw [nz_zero (h2 s a hn)] at b; cases b
    · rintro ⟨a, b⟩
      by_cases hs : s ∈ l
      · exact ⟨hs, by rw [(nz_cg (h1 s hs)).1]; exact b⟩
      · rcases h3 s a hs with z | ⟨z, z'⟩
        · rw [nz_zero z] at b; cases b
        · rw [← (nz_cg z).1, nz_zero z'] at b; cases b
  unfold partD
  rw [e]
  congr 1
  refine List.map_congr_left fun s hs => ?_
  have hs' := hs
  rw [← e] at hs'
  exact (nz_cg (h1 s (List.mem_filter.mp hs').1)).2
theorem form_eqC {p q ls ms : List Nat} (h : EqC p q) (hl : ls.Pairwise (· < ·)) (hm : ms.Pairwise (· < ·)) (hp : ∀ x, x ∈ p → x ∈ ls) (hq : ∀ x, x ∈ q → x ∈ ms) : formP p ls = formP q ms := by
  have a1 : partD (g1 p) (names1 ls) = partD (g1 q) (names1 ms) := by
    refine part_eq (names1_asc hl) (names1_asc hm) (fun s hs => ?_) (fun s hs hn => ?_) fun s hs hn => ?_
    · obtain ⟨x, rfl, hx⟩ := names1_mem.mp hs
      exact h.e1 x
    · obtain ⟨x, rfl, hx⟩ := names1_mem.mp hs
      show ((n1 x q : Nat) : Int) = 0
      rw [n1_zero fun m => hn (names1_mem.mpr ⟨x, rfl, hq x m⟩)]; rfl
    · obtain ⟨x, rfl, hx⟩ := names1_mem.mp hs
      refine .inr ⟨h.e1 x, ?_⟩
      show ((n1 x p : Nat) : Int) = 0
      rw [n1_zero fun m => hn (names1_mem.mpr ⟨x, rfl, hp x m⟩)]; rfl
  have z2 : ∀ {p ls : List Nat} {x y : Nat}, (∀ x, x ∈ p → x ∈ ls) → x < y → ¬ [x, y] ∈ names2 ls → n2 x y p = 0 := fun {p ls x y} hp hxy hn => by
    by_cases hx : x ∈ p
    · by_cases hy : y ∈ p
      · exact absurd (names2_mem.mpr ⟨x, y, rfl, hp x hx, hp y hy, hxy⟩) hn
      · exact n2_zero (.inr hy)
    · exact n2_zero (.inl hx)
  have a2 : partD (g2 p) (names2 ls) = partD (g2 q) (names2 ms) := by
    refine part_eq (names2_asc hl) (names2_asc hm) (fun s hs => ?_) (fun s hs hn => ?_) fun s hs hn => ?_
    · obtain ⟨x, y, rfl, hx, hy, hxy⟩ := names2_mem.mp hs
      exact h.e2 x y (by omega)
    · obtain ⟨x, y, rfl, hx, hy, hxy⟩ := names2_mem.mp hs
      show ((n2 x y q : Nat) : Int) = 0
      rw [z2 hq hxy hn]; rfl
    · obtain ⟨x, y, rfl, hx, hy, hxy⟩ := names2_mem.mp hs
      refine .inr ⟨h.e2 x y (by omega), ?_⟩
      show ((n2 x y p : Nat) : Int) = 0
      rw [z2 hp hxy hn]; rfl
  have z3 : ∀ {p ls : List Nat} {x y z : Nat}, (∀ x, x ∈ p → x ∈ ls) → x < y → y < z → ¬ [x, y, z] ∈ names3 ls → (n3 x y z p : Int) - (n3 y x z p : Nat) = 0 := fun {p ls x y z} hp hxy hyz hn => by
    have hh : ¬ x ∈ p ∨ ¬ y ∈ p ∨ ¬ z ∈ p := by
      by_cases hx : x ∈ p
      · by_cases hy : y ∈ p
        · by_cases hz : z ∈ p
          · exact absurd (names3_mem.mpr ⟨x, y, z, rfl, hp x hx, hp y hy, hp z hz, hxy, hyz⟩) hn
          · exact .inr (.inr hz)
        · exact .inr (.inl hy)
      · exact .inl hx
    rw [n3_zero hh, n3_zero (x := y) (y := x) (hh.elim (fun q => .inr (.inl q)) fun q => q.elim .inl fun q => .inr (.inr q))]; rfl
  have a3 : partD (g3 p) (names3 ls) = partD (g3 q) (names3 ms) := by
    refine part_eq (names3_asc hl) (names3_asc hm) (fun s hs => ?_) (fun s hs hn => ?_) fun s hs hn => ?_
    · obtain ⟨x, y, z, rfl, hx, hy, hz, hxy, hyz⟩ := names3_mem.mp hs
      exact h.e3 x y z (by omega) (by omega) (by omega)
    · obtain ⟨x, y, z, rfl, hx, hy, hz, hxy, hyz⟩ := names3_mem.mp hs
      exact z3 hq hxy hyz hn
    · obtain ⟨x, y, z, rfl, hx, hy, hz, hxy, hyz⟩ := names3_mem.mp hs
      exact .inr ⟨h.e3 x y z (by omega) (by omega) (by omega), z3 hp hxy hyz hn⟩
  unfold formP
  rw [a1, a2, a3]
theorem formD_eq {s t : List Nat} (hs : RowL s) (ht : RowL t) (h : EqC (plainL s) (plainL t)) : formD s = formD t :=
  form_eqC h (letters_asc s) (letters_asc t) (fun x => (plain_mem hs).mp) fun x => (plain_mem ht).mp
def noF : D := .tup [.tup [], .tup [], .tup []]
theorem formD_nil : formD [] = noF := rfl
theorem plainL_app (s t : List Nat) : plainL (s ++ t) = plainL s ++ plainL t := by
  unfold plainL
  rw [List.map_append, List.flatten_append]
theorem rowL_app {s t : List Nat} (hs : RowL s) (ht : RowL t) : RowL (s ++ t) := fun c hc => (List.mem_append.mp hc).elim (hs c) (ht c)
theorem rowL_nil : RowL [] := fun c hc => by simp at hc
theorem rowL_cons {c : Nat} {s : List Nat} : RowL (c :: s) ↔ isL c = true ∧ RowL s :=
  ⟨fun h => ⟨h c List.mem_cons_self, fun x hx => h x (List.mem_cons_of_mem _ hx)⟩, fun h x hx => by
    rcases List.mem_cons.mp hx with q | q
    · rw [q]; exact h.1
    · exact h.2 x q⟩
theorem backL_cons (c : Nat) (s : List Nat) : backL (c :: s) = backL s ++ flipC c := by
  unfold backL
  rw [List.reverse_cons, List.map_append, List.flatten_append]
  simp
theorem flip_plain {c : Nat} (h : isL c = true) : ∃ d, plainC c ++ plainL (flipC c) = [d] ++ ([d] ++ [d]) := by
  rw [isL_iff] at h
  unfold plainC flipC
  by_cases z : c ∈ lets
  · rw [if_pos z, if_pos z]
    rw [lets_mem] at z
    have : ¬ (c - 32) ∈ lets := by rw [lets_mem]; omega
    refine ⟨c, ?_⟩
    show [c] ++ (plainC (c - 32) ++ []) = _
    unfold plainC
    rw [if_neg this]
    have : c - 32 + 32 = c := by omega
    rw [this]; rfl
  · rw [if_neg z, if_neg z]
    rw [lets_mem] at z
    have : (c + 32) ∈ lets := by rw [lets_mem]; omega
    refine ⟨c + 32, ?_⟩
    show [c + 32, c + 32] ++ (plainC (c + 32) ++ []) = _
    unfold plainC
    rw [if_pos this]; rfl
/-- a row and what undoes it -/
theorem eqC_back : ∀ {s : List Nat}, RowL s → EqC (plainL (s ++ backL s)) []
  | [], _ => EqC.refl _
  | c :: s, h => by
    obtain ⟨h1, h2⟩ := rowL_cons.mp h
    have ih := eqC_back h2
    obtain ⟨d, hd⟩ := flip_plain h1
    have e : plainL (c :: s ++ backL (c :: s)) = plainC c ++ (plainL (s ++ backL s) ++ plainL (flipC c)) := by
      rw [backL_cons]
      show plainL (c :: (s ++ (backL s ++ flipC c))) = _
      rw [← List.append_assoc, ← plainL_app]
      rfl
    rw [e]
    have k : EqC (plainC c ++ (plainL (s ++ backL s) ++ plainL (flipC c))) (plainC c ++ ([] ++ plainL (flipC c))) := (EqC.refl _).app (ih.app (EqC.refl _))
    refine k.trans ?_
    rw [List.nil_append, hd]
    exact eqC_cube [d]
theorem form_back {s : List Nat} (h : RowL s) : formD (s ++ backL s) = noF := by
  rw [← formD_nil]
  exact formD_eq (rowL_app h (flip_row h).1) rowL_nil (eqC_back h)
theorem eqC_3 (s : List Nat) : EqC (plainL (s ++ (s ++ s))) [] := by
  rw [plainL_app, plainL_app]
  exact eqC_cube _
theorem form_3x {s : List Nat} (h : RowL s) : formD (s ++ (s ++ s)) = noF := by
  rw [← formD_nil]
  exact formD_eq (rowL_app h (rowL_app h h)) rowL_nil (eqC_3 s)
theorem mul3 {s : List Nat} (hl : s.length < 1000000) : dMul (.str s) (.int 3) = some (.val (.str (s ++ (s ++ s)))) := by
  unfold dMul
  dsimp only
  rw [if_pos ⟨by decide, by decide, by
    show s.length * 3 ≤ SZ
    rw [SZ_is]; omega⟩]
  simp [List.replicate]
end Thr
namespace Thr
open PySem PySem.Spec PyProof.Rows L2 RZ Sh

section
variable {ρ ρ1 ρ2 ρ3 : Env} {S S1 S2 S3 : Store}
theorem nil_ok : mNil ρ S = .ok [] ρ S := rfl
theorem cons_ok {m : M D} {n : M (List D)} {d : D} {ds : List D} (h : m ρ S = .ok d ρ1 S1) (h' : n ρ1 S1 = .ok ds ρ2 S2) : mCons m n ρ S = .ok (d :: ds) ρ2 S2 := by
  unfold mCons
  rw [b_ok h, b_ok h']
  rfl
theorem call_ok {f : MF} {m : M (List D)} {ds : List D} {r : RV} (h : m ρ S = .ok ds ρ1 S1) (e : f ds S1 = .ok r S2) : mCall0 f m ρ S = .ok r ρ1 S2 := by
  unfold mCall0
  rw [b_ok h, e]
theorem lst_ok {m : M (List D)} {ds : List D} (h : m ρ S = .ok ds ρ1 S1) (hl : ds.length ≤ 16777216) : mLst m ρ S = .ok (.own ds) ρ1 S1 := by
  unfold mLst
  rw [b_ok h]
  try dsimp only
  first | rfl | (rw [if_pos (by rw [SZ_is]; exact hl)]; rfl)
theorem not_ok {m : M Bool} {b : Bool} (h : m ρ S = .ok b ρ1 S1) : mNot m ρ S = .ok (!b) ρ1 S1 := by
  unfold mNot
  rw [b_ok h]
  rfl
theorem bl_ok {m : M D} {b : Bool} (h : m ρ S = .ok (.bl b) ρ1 S1) : mBl m ρ S = .ok b ρ1 S1 := by
  unfold mBl
  rw [b_ok h]
  rfl
theorem ret_ok {m : M RV} {r : RV} (h : m ρ S = .ok r ρ1 S1) : sRet m ρ S = .ok (.rt r) ρ1 S1 := by
  unfold sRet
  rw [b_ok h]
  rfl
theorem seq_rt {m n : M Fl} {r : RV} (h : m ρ S = .ok (.rt r) ρ1 S1) : sSeq m n ρ S = .ok (.rt r) ρ1 S1 := by
  unfold sSeq
  rw [b_ok h]
  rfl
end
theorem add1 (i j : Int) : dAdd (.int i) (.int j) = some (.val (.int (i + j))) := rfl
/-! ### a row near to one -/
theorem near_step {S : Store} {n t : Nat} {s : List Nat} {s2 s3 s4 s5 : Sl} (h : Bx S n t) (ht : t + 1100 < 1000000000) (hs : RowL s) (hl : s.length < 10000) :
    ∃ s' s3' s4' s5' S', p__law_near_1 [.val (.cel n), .val (.str s), s2, s3, s4, s5] S = .ok .nx [.val (.cel n), .val (.str s'), s2, s3', s4', s5'] S' ∧ RowL s' ∧ s'.length ≤ s.length + 9 ∧ Bx S' n (t + 1100) := by
  obtain ⟨r1, S1, e1, a0, a1, hb1⟩ := take_spec (k := (s.length : Int) + 1) h (by omega) (by omega) (by omega)
  obtain ⟨r2, S2, e2, b0, b1, hb2⟩ := take_spec (k := 5) hb1 (by omega) (by omega) (by omega)
  have e0 : sPars [3, 4] (rCons (mCall0 m__law_take (mCons (mVar 0) (mCons (M.frz (mOp dAdd (mK (M.frz (mCallB fLen (mKCons (mPk 1) mKNil)))) (mK (mC (.int 1))))) mNil))) (rCons (mCall0 m__law_take (mCons (mVar 0) (mCons (mC (.int 5)) mNil))) rNil)) [.val (.cel n), .val (.str s), s2, s3, s4, s5] S = .ok .nx [.val (.cel n), .val (.str s), s2, .val (.int r1), .val (.int r2), s5] S2 := by
    have hz : s.length ≤ 16777216 := by omega
    simp [sSeq, sNil, sIf, sRet, sRetN, sSet, sPut, sDrop, sPars, rNil, rCons, putRVs, mIf, M.bind, M.ret, M.opt, M.look, M.looks, M.frz, M.vl, M.cel, mCmp, mB, mBl, dBl, mTru, dTru, mNot, mAnd, mOr, mAndV, mOrV, mNotV, mNil, mCons, mTup, mLst, mOp, mOpV, mPk, mK, mC, mVar, Pk.get, Pk.gets, Sl.view, view, mKNil, mKCons, mCallB, mCall0, mCallK, permL, dIx, atD, dAdd, dSub, dMod, dFdiv, dNeg, mNeg, dGt, dLt, dGe, dLe, dEq, dNe, RV.toSl, RV.toD, RV.out, RV.tru, mOrT, mSl, mPart, mNoP, dInt, dSl, fLen, fInt, fAbs, fList, fTuple, seqOf, sqOf, sFor, mRng1, mRng2, rng1, rng2, mEnum, enum1, mZip, zip2, lstOf, tgN, tgT, tgNs, mYes, mM0, mM1, mRevS, revS, mRevL, revL, dIn, dNotIn, mStore, lstAt, putAt, ixD, ixN, sSub, mApp, mListS, listS, mItS, strOf, mItA, lstOr, mItL, mItT, tupOf, mSSet, dSSet, mDef, sAug, dAddI, dSubI, SZ, M.alt, mGet2, isDic, dGetOr, dGet, mDNew, sDput, chkD, putD, sAsg, fLenD, mChain, dCount, hz, e1, e2]
  have fin : ∀ (b : List Nat) (S3 : Store), RowL b → b.length ≤ 9 → Bx S3 n (t + 1100) → ∃ s', sSet 1 (mOp dAdd (mK (M.frz (mOp dAdd (mK (M.frz (mSl (mPk 1) mNoP (mPart (mVar 3))))) (mPk 5)))) (mK (M.frz (mSl (mPk 1) (mPart (mVar 3)) mNoP)))) [.val (.cel n), .val (.str s), s2, .val (.int r1), .val (.int r2), .val (.str b)] S3 = .ok .nx [.val (.cel n), .val (.str s'), s2, .val (.int r1), .val (.int r2), .val (.str b)] S3 ∧ RowL s' ∧ s'.length ≤ s.length + 9 := fun b S3 hb hbl _ => by
    have c1 : dCut s none (some r1) = s.take r1.toNat := by
      have := dCut_to s r1.toNat
      rwa [Int.toNat_of_nonneg a0] at this
    have c2 : dCut s (some r1) none = s.drop r1.toNat := by
      have := dCut_from s r1.toNat
      rwa [Int.toNat_of_nonneg a0] at this
    have hz : s.length ≤ 16777216 := by omega
    have hz2 : min r1.toNat s.length + b.length ≤ 16777216 := by omega
    have hz3 : min r1.toNat s.length + b.length + (s.length - r1.toNat) ≤ 16777216 := by omega
    refine ⟨s.take r1.toNat ++ b ++ s.drop r1.toNat, ?_, rowL_app (rowL_app (fun c hc => hs c (List.mem_of_mem_take hc)) hb) (fun c hc => hs c (List.mem_of_mem_drop hc)), by simp; omega⟩
    have g1 : mSl (mPk 1) mNoP (mPart (mVar 3)) [.val (.cel n), .val (.str s), s2, .val (.int r1), .val (.int r2), .val (.str b)] S3 = .ok (.val (.str (s.take r1.toNat))) [.val (.cel n), .val (.str s), s2, .val (.int r1), .val (.int r2), .val (.str b)] S3 := by simp [sSeq, sNil, sIf, sRet, sRetN, sSet, sPut, sDrop, sPars, rNil, rCons, putRVs, mIf, M.bind, M.ret, M.opt, M.look, M.looks, M.frz, M.vl, M.cel, mCmp, mB, mBl, dBl, mTru, dTru, mNot, mAnd, mOr, mAndV, mOrV, mNotV, mNil, mCons, mTup, mLst, mOp, mOpV, mPk, mK, mC, mVar, Pk.get, Pk.gets, Sl.view, view, mKNil, mKCons, mCallB, mCall0, mCallK, permL, dIx, atD, dAdd, dSub, dMod, dFdiv, dNeg, mNeg, dGt, dLt, dGe, dLe, dEq, dNe, RV.toSl, RV.toD, RV.out, RV.tru, mOrT, mSl, mPart, mNoP, dInt, dSl, fLen, fInt, fAbs, fList, fTuple, seqOf, sqOf, sFor, mRng1, mRng2, rng1, rng2, mEnum, enum1, mZip, zip2, lstOf, tgN, tgT, tgNs, mYes, mM0, mM1, mRevS, revS, mRevL, revL, dIn, dNotIn, mStore, lstAt, putAt, ixD, ixN, sSub, mApp, mListS, listS, mItS, strOf, mItA, lstOr, mItL, mItT, tupOf, mSSet, dSSet, mDef, sAug, dAddI, dSubI, SZ, M.alt, mGet2, isDic, dGetOr, dGet, mDNew, sDput, chkD, putD, sAsg, fLenD, mChain, dCount, hz, c1]
    have g2 : mSl (mPk 1) (mPart (mVar 3)) mNoP [.val (.cel n), .val (.str s), s2, .val (.int r1), .val (.int r2), .val (.str b)] S3 = .ok (.val (.str (s.drop r1.toNat))) [.val (.cel n), .val (.str s), s2, .val (.int r1), .val (.int r2), .val (.str b)] S3 := by simp [sSeq, sNil, sIf, sRet, sRetN, sSet, sPut, sDrop, sPars, rNil, rCons, putRVs, mIf, M.bind, M.ret, M.opt, M.look, M.looks, M.frz, M.vl, M.cel, mCmp, mB, mBl, dBl, mTru, dTru, mNot, mAnd, mOr, mAndV, mOrV, mNotV, mNil, mCons, mTup, mLst, mOp, mOpV, mPk, mK, mC, mVar, Pk.get, Pk.gets, Sl.view, view, mKNil, mKCons, mCallB, mCall0, mCallK, permL, dIx, atD, dAdd, dSub, dMod, dFdiv, dNeg, mNeg, dGt, dLt, dGe, dLe, dEq, dNe, RV.toSl, RV.toD, RV.out, RV.tru, mOrT, mSl, mPart, mNoP, dInt, dSl, fLen, fInt, fAbs, fList, fTuple, seqOf, sqOf, sFor, mRng1, mRng2, rng1, rng2, mEnum, enum1, mZip, zip2, lstOf, tgN, tgT, tgNs, mYes, mM0, mM1, mRevS, revS, mRevL, revL, dIn, dNotIn, mStore, lstAt, putAt, ixD, ixN, sSub, mApp, mListS, listS, mItS, strOf, mItA, lstOr, mItL, mItT, tupOf, mSSet, dSSet, mDef, sAug, dAddI, dSubI, SZ, M.alt, mGet2, isDic, dGetOr, dGet, mDNew, sDput, chkD, putD, sAsg, fLenD, mChain, dCount, hz, c2]
    exact set_ok (ρ1 := [.val (.cel n), .val (.str s), s2, .val (.int r1), .val (.int r2), .val (.str b)]) (r := .val (.str (s.take r1.toNat ++ b ++ s.drop r1.toNat))) (op_ok (x := .str (s.take r1.toNat ++ b)) (y := .str (s.drop r1.toNat)) (mk_ok (fop_ok (x := .str (s.take r1.toNat)) (y := .str b) (d := .str (s.take r1.toNat ++ b)) (mk_ok (frz_ok g1)) (pk_ok rfl rfl) rfl (pg_ok rfl rfl) (add_str (by rw [List.length_take]; exact hz2)))) (mk_ok (frz_ok g2)) rfl rfl (add_str (by rw [List.length_append, List.length_take, List.length_drop]; exact hz3))) (by simp)
  unfold p__law_near_1
  rw [seq_nx e0]
  by_cases h1 : r2 < 2
  · obtain ⟨b, S3, e3, hb, hbl, hb3⟩ := row_spec (many := 3) (long := 3) hb2 (by omega) (by omega) (by omega) (by omega) (by omega)
    obtain ⟨s', e5, q1, q2⟩ := fin (b ++ (b ++ b)) S3 (rowL_app hb (rowL_app hb hb)) (by simp; omega) (hb3.mono (by omega))
    have m3 := mul3 (s := b) (by omega)
    have e4 : sSet 5 (mOp dMul (mK (M.frz (mCall0 m__law_row (mCons (mVar 0) (mCons (mC (.int 3)) (mCons (mC (.int 3)) mNil)))))) (mK (mC (.int 3)))) [.val (.cel n), .val (.str s), s2, .val (.int r1), .val (.int r2), s5] S2 = .ok .nx [.val (.cel n), .val (.str s), s2, .val (.int r1), .val (.int r2), .val (.str (b ++ (b ++ b)))] S3 :=
      set_ok (ρ1 := [.val (.cel n), .val (.str s), s2, .val (.int r1), .val (.int r2), s5]) (r := .val (.str (b ++ (b ++ b)))) (op_ok (x := .str b) (y := .int 3) (mk_ok (frz_ok (call_ok (cons_ok (var_ok rfl) (cons_ok c_ok (cons_ok c_ok nil_ok))) e3))) (mk_ok c_ok) rfl rfl m3) (by simp)
    rw [seq_nx (if_t (c := mCmp dLt (mPk 4) (mK (mC (.int 2)))) (cmp_ok (x := .int r2) (y := .int 2) (pk_ok rfl rfl) (mk_ok c_ok) (pg_ok rfl rfl) rfl (by show some (decide (r2 < 2)) = _; rw [decide_eq_true h1])) |>.trans e4)]
    exact ⟨s', _, _, _, S3, e5, q1, q2, hb3.mono (by omega)⟩
  · by_cases h2 : r2 < 4
    · obtain ⟨b, S3, e3, hb, hbl, hb3⟩ := row_spec (many := 4) (long := 3) hb2 (by omega) (by omega) (by omega) (by omega) (by omega)
      obtain ⟨f1, f2, f3⟩ := flip_row hb
      have ek := back_spec (S := S3) hb (by omega)
      obtain ⟨s', e5, q1, q2⟩ := fin (b ++ backL b) S3 (rowL_app hb f1) (by rw [List.length_append, f2]; omega) (hb3.mono (by omega))
      have e4 : sSet 5 (mCall0 m__law_row (mCons (mVar 0) (mCons (mC (.int 4)) (mCons (mC (.int 3)) mNil)))) [.val (.cel n), .val (.str s), s2, .val (.int r1), .val (.int r2), s5] S2 = .ok .nx [.val (.cel n), .val (.str s), s2, .val (.int r1), .val (.int r2), .val (.str b)] S3 :=
        set_ok (ρ1 := [.val (.cel n), .val (.str s), s2, .val (.int r1), .val (.int r2), s5]) (r := .val (.str b)) (call_ok (cons_ok (var_ok rfl) (cons_ok c_ok (cons_ok c_ok nil_ok))) e3) (by simp)
      have e6 : sSet 5 (mOp dAdd (mPk 5) (mK (M.frz (mCall0 m__law_back (mCons (mVar 5) mNil))))) [.val (.cel n), .val (.str s), s2, .val (.int r1), .val (.int r2), .val (.str b)] S3 = .ok .nx [.val (.cel n), .val (.str s), s2, .val (.int r1), .val (.int r2), .val (.str (b ++ backL b))] S3 :=
        set_ok (ρ1 := [.val (.cel n), .val (.str s), s2, .val (.int r1), .val (.int r2), .val (.str b)]) (r := .val (.str (b ++ backL b))) (op_ok (x := .str b) (y := .str (backL b)) (pk_ok rfl rfl) (mk_ok (frz_ok (call_ok (cons_ok (var_ok rfl) nil_ok) ek))) (pg_ok rfl rfl) rfl (add_str (by rw [f2]; omega))) (by simp)
      rw [seq_nx (if_f (c := mCmp dLt (mPk 4) (mK (mC (.int 2)))) (cmp_ok (x := .int r2) (y := .int 2) (pk_ok rfl rfl) (mk_ok c_ok) (pg_ok rfl rfl) rfl (by show some (decide (r2 < 2)) = _; rw [decide_eq_false h1])) |>.trans ((if_t (c := mCmp dLt (mPk 4) (mK (mC (.int 4)))) (cmp_ok (x := .int r2) (y := .int 4) (pk_ok rfl rfl) (mk_ok c_ok) (pg_ok rfl rfl) rfl (by show some (decide (r2 < 4)) = _; rw [decide_eq_true h2]))).trans ((seq_nx e4).trans e6)))]
      exact ⟨s', _, _, _, S3, e5, q1, q2, hb3.mono (by omega)⟩
    · obtain ⟨b, S3, e3, hb, hbl, hb3⟩ := row_spec (many := 4) (long := 1) hb2 (by omega) (by omega) (by omega) (by omega) (by omega)
      obtain ⟨s', e5, q1, q2⟩ := fin b S3 hb (by omega) (hb3.mono (by omega))
      have e4 : sSet 5 (mCall0 m__law_row (mCons (mVar 0) (mCons (mC (.int 4)) (mCons (mC (.int 1)) mNil)))) [.val (.cel n), .val (.str s), s2, .val (.int r1), .val (.int r2), s5] S2 = .ok .nx [.val (.cel n), .val (.str s), s2, .val (.int r1), .val (.int r2), .val (.str b)] S3 :=
        set_ok (ρ1 := [.val (.cel n), .val (.str s), s2, .val (.int r1), .val (.int r2), s5]) (r := .val (.str b)) (call_ok (cons_ok (var_ok rfl) (cons_ok c_ok (cons_ok c_ok nil_ok))) e3) (by simp)
      rw [seq_nx (if_f (c := mCmp dLt (mPk 4) (mK (mC (.int 2)))) (cmp_ok (x := .int r2) (y := .int 2) (pk_ok rfl rfl) (mk_ok c_ok) (pg_ok rfl rfl) rfl (by show some (decide (r2 < 2)) = _; rw [decide_eq_false h1])) |>.trans ((if_f (c := mCmp dLt (mPk 4) (mK (mC (.int 4)))) (cmp_ok (x := .int r2) (y := .int 4) (pk_ok rfl rfl) (mk_ok c_ok) (pg_ok rfl rfl) rfl (by show some (decide (r2 < 4)) = _; rw [decide_eq_false h2]))).trans e4))]
      exact ⟨s', _, _, _, S3, e5, q1, q2, hb3.mono (by omega)⟩
theorem near_spec {S : Store} {n t : Nat} {s : List Nat} (h : Bx S n t) (ht : t + 3400 < 1000000000) (hs : RowL s) (hl : s.length < 5000) :
    ∃ s' S', m__law_near [.cel n, .str s] S = .ok (.val (.str s')) S' ∧ RowL s' ∧ s'.length ≤ s.length + 27 ∧ Bx S' n (t + 3400) := by
  obtain ⟨r, S1, e1, a0, a1, hb1⟩ := take_spec (k := 3) h (by omega) (by omega) (by omega)
  have ok : okR (1 + r) = true := by
    unfold okR
    rw [Bool.and_eq_true, decide_eq_true_eq, decide_eq_true_eq]; omega
  obtain ⟨ρ', S', e, s', s2, s3, s4, s5, rfl, q1, q2, hb2⟩ := forL_inv (tg := tgN 2) (body := p__law_near_1) (fun i ρ S1 => ∃ (s' : List Nat) (s2 s3 s4 s5 : Sl), ρ = [.val (.cel n), .val (.str s'), s2, s3, s4, s5] ∧ RowL s' ∧ s'.length ≤ s.length + 9 * i ∧ Bx S1 n (t + 1 + 1100 * i))
    (rng 0 (1 + r).toNat) 0 [.val (.cel n), .val (.str s), .un, .un, .un, .un] S1 ⟨s, .un, .un, .un, .un, rfl, hs, by omega, hb1.mono (by omega)⟩ (by
    rintro i d ρ S1 hi ⟨s', s2, s3, s4, s5, rfl, q1, q2, hb⟩
    obtain ⟨hin, rfl⟩ := rng_at hi
    obtain ⟨s'', s3', s4', s5', S', e, q3, q4, q5⟩ := near_step (s2 := .val (.int (i : Nat))) (s3 := s3) (s4 := s4) (s5 := s5) hb (by omega) q1 (by omega)
    exact ⟨_, S1, .nx, _, S', rfl, e, .inl rfl, s'', _, s3', s4', s5', rfl, q3, by omega, q5.mono (by omega)⟩)
  rw [rng_len] at q2 hb2
  refine ⟨s', S', ?_, q1, by omega, hb2.mono (by omega)⟩
  have e2 : sFor (mRng1 (mCons (M.frz (mOp dAdd (mK (mC (.int 1))) (mK (M.frz (mCall0 m__law_take (mCons (mVar 0) (mCons (mC (.int 3)) mNil))))))) mNil)) (tgN 2) p__law_near_1 [.val (.cel n), .val (.str s), .un, .un, .un, .un] S = .ok .nx [.val (.cel n), .val (.str s'), s2, s3, s4, s5] S' := by
    rw [for_ok (ds := rng 0 (1 + r).toNat) (ρ1 := [.val (.cel n), .val (.str s), .un, .un, .un, .un]) (S1 := S1)]
    · exact e
    · unfold mRng1
      rw [b_ok (cons_ok (fop_ok (x := .int 1) (y := .int r) (d := .int (1 + r)) (mk_ok c_ok) (mk_ok (frz_ok (call_ok (cons_ok (var_ok rfl) (cons_ok c_ok nil_ok)) e1))) rfl rfl rfl) nil_ok)]
      unfold rng1
      dsimp only
      rw [if_pos ok]
      rfl
  unfold m__law_near
  exact def_rt (r := .val (.str s')) rfl ((seq_nx e2).trans (ret_ok (vl_ok (var_ok rfl))))
end Thr
namespace Thr
open PySem PySem.Spec PyProof.Rows L2 RZ Sh

/-! ### forms are plain data -/
theorem okD_re (f : List Nat → Int) (n : Nat) (s : List Nat) : okD (n + 2) (reD f s) = true := by simp [reD, okD]
theorem okD_part {f : List Nat → Int} {l : List (List Nat)} (n : Nat) (h : l.length < 1000000) : okD (n + 3) (partD f l) = true := by
  unfold partD okD
  rw [Bool.and_eq_true, decide_eq_true_eq, List.length_map]
  refine ⟨Nat.lt_of_le_of_lt (List.length_filter_le _ _) h, ?_⟩
  rw [List.all_eq_true]
  intro d hd
  obtain ⟨s, _, rfl⟩ := List.mem_map.mp hd
  exact okD_re f n s
theorem okD_form {s : List Nat} (n : Nat) (h : RowL s) : okD (n + 4) (formD s) = true := by
  have h8 := letters_len h
  have l2 := names2_len h8
  have l3 := names3_len h8
  have l1 : (names1 (lettersL s)).length < 1000000 := by unfold names1; rw [List.length_map]; omega
  unfold formD formP okD
  rw [Bool.and_eq_true]
  refine ⟨by simp, ?_⟩
  simp only [List.all_cons, List.all_nil, Bool.and_true, Bool.and_eq_true]
  exact ⟨okD_part n l1, okD_part n (by omega), okD_part n (by omega)⟩
/-! ### long rows by hand -/
abbrev rW : List Nat := [97, 98, 99, 100, 101, 102, 103, 104]
abbrev rU : List Nat := [65, 66, 67, 68, 69, 70, 71, 72]
theorem plainL_rep (w : List Nat) : ∀ k, plainL (rep w k) = rep (plainL w) k
  | 0 => rfl
  | k + 1 => by
    show plainL (w ++ rep w k) = _
    rw [plainL_app, plainL_rep w k]
    rfl
theorem eq_rep (w : List Nat) (k : Nat) : EqC (plainL (rep w k)) (plainL (rep w (k % 3))) := by
  rw [plainL_rep, plainL_rep]
  exact rep_mod _ k
def tabR : List (List Nat × List Nat) := [(rep rW 48, []), (rep rW 50, rW ++ rW), (rep rW 49 ++ [72, 71, 70, 69, 68, 67, 66, 65], []), (rep rU 50, rU ++ rU), (rep [97, 98] 200, [97, 98, 97, 98])]
def rowB (s : List Nat) : Bool := s.all isL
theorem rowB_iff {s : List Nat} : rowB s = true ↔ RowL s := by
  unfold rowB
  rw [List.all_eq_true]
  exact Iff.rfl
theorem tab_ok : ∀ p, p ∈ tabR → rowB p.1 = true ∧ rowB p.2 = true ∧ EqC (plainL p.1) (plainL p.2) := by
  intro p hp
  have h : p = (rep rW 48, []) ∨ p = (rep rW 50, rW ++ rW) ∨ p = (rep rW 49 ++ [72, 71, 70, 69, 68, 67, 66, 65], []) ∨ p = (rep rU 50, rU ++ rU) ∨ p = (rep [97, 98] 200, [97, 98, 97, 98]) := by
    unfold tabR at hp
    simp only [List.mem_cons, List.not_mem_nil, or_false] at hp
    exact hp
  rcases h with rfl | rfl | rfl | rfl | rfl
  · exact ⟨by decide +kernel, by decide +kernel, eq_rep rW 48⟩
  · exact ⟨by decide +kernel, by decide +kernel, eq_rep rW 50⟩
  · refine ⟨by decide +kernel, by decide +kernel, ?_⟩
    show EqC (plainL (rep rW 49 ++ [72, 71, 70, 69, 68, 67, 66, 65])) (plainL [])
    rw [plainL_app]
    refine ((eq_rep rW 49).app (EqC.refl _)).trans ?_
    have h1 : RowL rW := rowB_iff.mp (by decide)
    have := eqC_back h1
    rw [plainL_app] at this
    exact this
  · exact ⟨by decide +kernel, by decide +kernel, eq_rep rU 50⟩
  · exact ⟨by decide +kernel, by decide +kernel, eq_rep [97, 98] 200⟩
def shortR (s : List Nat) : List Nat := if s.length < 64 then s else match tabR.find? (fun p => p.1 == s) with
  | some p => p.2
  | none => s
theorem short_ok {s : List Nat} (h : RowL s) : formD (shortR s) = formD s := by
  unfold shortR
  split
  · rfl
  · split
    · rename_i p hp
      have e := List.find?_some hp
      have m := List.mem_of_find?_eq_some hp
      obtain ⟨a, b, c⟩ := tab_ok p m
      have e' : p.1 = s := by simpa using e
      rw [e'] at a c
      exact (formD_eq h (rowB_iff.mp b) c).symm
    · rfl
/-- the counts at once -/
def t3 (x y z : Nat) : List Nat → Nat × Nat × Nat
  | [] => (0, 0, 0)
  | c :: p => match t3 x y z p with
    | (a, b, t) => (a + b2n (c == x), b + a * b2n (c == y), t + b * b2n (c == z))
theorem t3_is (x y z : Nat) : ∀ p : List Nat, t3 x y z p = (r1 x p, r2 x y p, r3 x y z p)
  | [] => rfl
  | c :: p => by
    unfold t3
    rw [t3_is x y z p]
    rfl
def q1 (p : List Nat) : List Nat → Int
  | [x] => (r1 x p : Nat)
  | _ => 0
def q2 (p : List Nat) : List Nat → Int
  | [x, y] => ((t3 x y y p).2.1 : Nat)
  | _ => 0
def q3 (p : List Nat) : List Nat → Int
  | [x, y, z] => ((t3 x y z p).2.2 : Nat) - ((t3 y x z p).2.2 : Nat)
  | _ => 0
def partQ (f : List Nat → Int) (names : List (List Nat)) : D := .tup (names.filterMap fun s => match f s % 3 with
  | 0 => none
  | k => some (.tup [.str s, .int k]))
def formQ (s : List Nat) : D := .tup [partQ (q1 (plainL s).reverse) (names1 (lettersL s)), partQ (q2 (plainL s).reverse) (names2 (lettersL s)), partQ (q3 (plainL s).reverse) (names3 (lettersL s))]
theorem partQ_is (f : List Nat → Int) : ∀ l : List (List Nat), partQ f l = partD f l := by
  intro l
  unfold partQ partD
  congr 1
  induction l with
  | nil => rfl
  | cons s l ih =>
    by_cases h : f s % 3 = 0
    · rw [List.filterMap_cons_none (by rw [h]; rfl), List.filter_cons_of_neg (by unfold nz; simp [h]), ih]
    · rw [List.filterMap_cons_some (b := .tup [.str s, .int (f s % 3)]) (by
        split
        · rename_i q; exact absurd q h
        · rfl), List.filter_cons_of_pos (by unfold nz; simp [h]), List.map_cons, ih]
      rfl
theorem formQ_is (s : List Nat) : formQ s = formD s := by
  unfold formQ formD formP
  rw [partQ_is, partQ_is, partQ_is]
  have e1 : q1 (plainL s).reverse = g1 (plainL s) := by
    funext t
    rcases t with _ | ⟨x, _ | ⟨y, _ | ⟨z, _ | ⟨w, t⟩⟩⟩⟩ <;> rfl
  have e2 : q2 (plainL s).reverse = g2 (plainL s) := by
    funext t
    rcases t with _ | ⟨x, _ | ⟨y, _ | ⟨z, _ | ⟨w, t⟩⟩⟩⟩ <;> first | rfl | simp [q2, g2, n2, t3_is]
  have e3 : q3 (plainL s).reverse = g3 (plainL s) := by
    funext t
    rcases t with _ | ⟨x, _ | ⟨y, _ | ⟨z, _ | ⟨w, t⟩⟩⟩⟩ <;> first | rfl | simp [q3, g3, n3, t3_is]
  rw [e1, e2, e3]
/-- form_of, _law_form told at once -/
def ffQ (f : MF) : MF := fun ds S => match ds with
  | [.str s] => if rowB s && decide (s.length < 4000) then .ok (.val (formQ (shortR s))) S else f [.str s] S
  | ds => f ds S
theorem ffQ_is {f : MF} (h : ∀ s S, RowL s → s.length < 4000 → f [.str s] S = .ok (.val (formD s)) S) : f = ffQ f := by
  funext ds S
  unfold ffQ
  split
  · rename_i s
    split
    · rename_i hc
      rw [Bool.and_eq_true, decide_eq_true_eq] at hc
      have hr := rowB_iff.mp hc.1
      rw [h s S hr hc.2, formQ_is, short_ok hr]
    · rfl
  · rfl
theorem form_ff : m_form_of = ffQ m_form_of := ffQ_is fun s S h hl => form_spec h hl
theorem lform_ff : m__law_form = ffQ m__law_form := ffQ_is fun s S h hl => lform_spec h hl
end Thr
namespace Thr
open PySem PySem.Spec PyProof.Rows L2 RZ Sh

section
variable {ρ ρ1 ρ2 ρ3 : Env} {S S1 S2 S3 : Store}
theorem val_ok {m : M RV} {d : D} (h : m ρ S = .ok (.val d) ρ1 S1) : M.frz m ρ S = .ok d ρ1 S1 := frz_ok h
theorem own_ok {m : M RV} {xs : List D} (h : m ρ S = .ok (.own xs) ρ1 S1) : M.frz m ρ S = .ok (.lst xs) ρ1 S1 := frz_ok h
theorem tup_ok {m : M (List D)} {ds : List D} (h : m ρ S = .ok ds ρ1 S1) (hl : ds.length ≤ 16777216) : mTup m ρ S = .ok (.tup ds) ρ1 S1 := by
  unfold mTup
  rw [b_ok h]
  try dsimp only
  first | rfl | (rw [if_pos (by rw [SZ_is]; exact hl)]; rfl)
/-- a test that is passed -/
theorem pass_ok {m : M Bool} {k : M Fl} (h : m ρ S = .ok false ρ1 S1) : sIf m k sNil ρ S = .ok .nx ρ1 S1 := if_f h
theorem fails_ok {f : MF} {m : M (List D)} {ds : List D} {k : M Fl} (h : m ρ S = .ok ds ρ1 S1) (e : f ds S1 = .ok (.val (.bl true)) S2) : sIf (mNot (mBl (M.frz (mCall0 f m)))) k sNil ρ S = .ok .nx ρ1 S2 :=
  if_f (not_ok (b := true) (bl_ok (val_ok (call_ok h e))))
theorem lst2 {m n : M D} {a b : D} (h : m ρ S = .ok a ρ1 S1) (h' : n ρ1 S1 = .ok b ρ2 S2) : M.frz (mLst (mCons m (mCons n mNil))) ρ S = .ok (.lst [a, b]) ρ2 S2 := own_ok (lst_ok (cons_ok h (cons_ok h' nil_ok)) (by simp))
theorem lst3 {m n o : M D} {a b c : D} (h : m ρ S = .ok a ρ1 S1) (h' : n ρ1 S1 = .ok b ρ2 S2) (h'' : o ρ2 S2 = .ok c ρ3 S3) : M.frz (mLst (mCons m (mCons n (mCons o mNil)))) ρ S = .ok (.lst [a, b, c]) ρ3 S3 := own_ok (lst_ok (cons_ok h (cons_ok h' (cons_ok h'' nil_ok))) (by simp))
theorem cv1 {f : MF} {m : M D} {a d : D} (h : m ρ S = .ok a ρ1 S1) (e : f [a] S1 = .ok (.val d) S2) : M.frz (mCall0 f (mCons m mNil)) ρ S = .ok d ρ1 S2 := val_ok (call_ok (cons_ok h nil_ok) e)
theorem cv2 {f : MF} {m n : M D} {a b d : D} (h : m ρ S = .ok a ρ1 S1) (h' : n ρ1 S1 = .ok b ρ2 S2) (e : f [a, b] S2 = .ok (.val d) S3) : M.frz (mCall0 f (mCons m (mCons n mNil))) ρ S = .ok d ρ2 S3 := val_ok (call_ok (cons_ok h (cons_ok h' nil_ok)) e)
end
theorem noF_3 {ρ : Env} {S : Store} : mTup (mCons (mTup mNil) (mCons (mTup mNil) (mCons (mTup mNil) mNil))) ρ S = .ok noF ρ S := rfl
theorem okD_noF (n : Nat) : okD (n + 2) noF = true := by simp [noF, okD]
theorem same_two {a b : D} {S : Store} (ha : okD 6 a = true) (hb : okD 6 b = true) : m__law_same [.lst [a, b], .lst [a, b]] S = .ok (.val (.bl true)) S :=
  same_ok 7 _ S (by simp [okD, ha, hb])
theorem mul_lst2 (a : D) : dMul (.lst [a]) (.int 2) = some (.own [a, a]) := by
  unfold dMul
  dsimp only
  rw [if_pos ⟨by decide, by decide, by
    show 1 * 2 ≤ SZ
    rw [SZ_is]; decide⟩]
  rfl
end Thr
namespace Thr
open PySem PySem.Spec PyProof.Rows L2 RZ Sh

/-! ### data of ints, texts, tuples: == is sameness -/
def sdat : Nat → D → Bool
  | _, .int _ => true
  | _, .str s => s.all fun c => decide (c < 200)
  | n + 1, .tup xs => xs.all (sdat n)
  | _, _ => false
theorem sd_toP : ∀ (n : Nat) (d : D), sdat n d = true → ∃ p, toP d = some p ∧ p.canLay0 = true ∧ p.depth ≤ n
  | n, .int i, _ => ⟨.int i, by unfold toP; rfl, by simp [PyData.canLay0], by simp [PyData.depth]⟩
  | n, .str s, h => ⟨.str (mkS s), by unfold toP; rfl, by
    unfold sdat at h
    have h' := List.all_eq_true.mp h
    simp only [PyData.canLay0, PyData.strOk]
    rw [Array.all_eq_true_iff_forall_mem]
    intro c hc
    have hc' : c ∈ s := by simpa using hc
    have := of_decide_eq_true (h' c hc')
    exact decide_eq_true (by omega), by simp [PyData.depth]⟩
  | n + 1, .tup xs, h => by
    unfold sdat at h
    have h' := List.all_eq_true.mp h
    have key : ∀ l : List D, (∀ x, x ∈ l → sdat n x = true) → ∃ ps, toPs l = some ps ∧ PyData.canLayAll0 ps = true ∧ PyData.depthAll ps ≤ n := by
      intro l
      induction l with
      | nil => exact fun _ => ⟨[], by unfold toPs; rfl, by simp [PyData.canLayAll0], by simp [PyData.depthAll]⟩
      | cons x l ih =>
        intro hl
        obtain ⟨p, a1, a2, a3⟩ := sd_toP n x (hl x List.mem_cons_self)
        obtain ⟨ps, b1, b2, b3⟩ := ih fun y hy => hl y (List.mem_cons_of_mem _ hy)
        refine ⟨p :: ps, by unfold toPs; rw [a1, b1], by simp [PyData.canLayAll0, a2, b2], ?_⟩
        simp only [PyData.depthAll]
        omega
    obtain ⟨ps, b1, b2, b3⟩ := key xs h'
    refine ⟨.tuple ps, by unfold toP; rw [b1]; rfl, by simp [PyData.canLay0, b2], ?_⟩
    simp only [PyData.depth]
    omega
  | 0, .tup xs, h => by unfold sdat at h; cases h
  | 0, .lst _, h => by unfold sdat at h; cases h
  | _ + 1, .lst _, h => by unfold sdat at h; cases h
  | 0, .rol _, h => by unfold sdat at h; cases h
  | _ + 1, .rol _, h => by unfold sdat at h; cases h
  | 0, .dic _ _, h => by unfold sdat at h; cases h
  | _ + 1, .dic _ _, h => by unfold sdat at h; cases h
  | 0, .cel _, h => by unfold sdat at h; cases h
  | _ + 1, .cel _, h => by unfold sdat at h; cases h
  | 0, .typ _, h => by unfold sdat at h; cases h
  | _ + 1, .typ _, h => by unfold sdat at h; cases h
  | 0, .bl _, h => by unfold sdat at h; cases h
  | _ + 1, .bl _, h => by unfold sdat at h; cases h
  | 0, .non, h => by unfold sdat at h; cases h
  | _ + 1, .non, h => by unfold sdat at h; cases h
theorem sd_cases {n : Nat} {d : D} (h : sdat n d = true) : (∃ i, d = .int i) ∨ (∃ s, d = .str s) ∨ ∃ m xs, d = .tup xs ∧ n = m + 1 ∧ ∀ x, x ∈ xs → sdat m x = true := by
  cases d with
  | int i => exact .inl ⟨i, rfl⟩
  | str s => exact .inr (.inl ⟨s, rfl⟩)
  | tup xs =>
    cases n with
    | zero => unfold sdat at h; cases h
    | succ m => unfold sdat at h; exact .inr (.inr ⟨m, xs, rfl, rfl, List.all_eq_true.mp h⟩)
  | _ => cases n <;> (unfold sdat at h; cases h)
theorem sd_eqv : ∀ (n m : Nat) (x y : D) (p q : PyData), sdat n x = true → sdat m y = true → toP x = some p → toP y = some q → (PyData.eqv p q = true ↔ x = y) := by
  intro n
  induction n with
  | zero =>
    intro m x y p q hx hy ex ey
    rcases sd_cases hx with ⟨i, rfl⟩ | ⟨s, rfl⟩ | ⟨_, xs, rfl, h, _⟩
    · unfold toP at ex; cases ex
      rcases sd_cases hy with ⟨j, rfl⟩ | ⟨t, rfl⟩ | ⟨k, ys, rfl, rfl, hys⟩
      · unfold toP at ey; cases ey
        simp [PyData.eqv]
      · unfold toP at ey; cases ey
        simp [PyData.eqv]
      · unfold toP at ey
        cases z : toPs ys with
        | none => rw [z] at ey; cases ey
        | some qs => rw [z] at ey; cases ey; simp [PyData.eqv]
    · unfold toP at ex; cases ex
      rcases sd_cases hy with ⟨j, rfl⟩ | ⟨t, rfl⟩ | ⟨k, ys, rfl, rfl, hys⟩
      · unfold toP at ey; cases ey
        simp [PyData.eqv]
      · unfold toP at ey; cases ey
        simp only [PyData.eqv, beq_iff_eq, D.str.injEq]
        exact ⟨fun h => mkS_inj h, fun h => by rw [h]⟩
      · unfold toP at ey
        cases z : toPs ys with
        | none => rw [z] at ey; cases ey
        | some qs => rw [z] at ey; cases ey; simp [PyData.eqv]
    · cases h
  | succ n ih =>
    intro m x y p q hx hy ex ey
    rcases sd_cases hx with ⟨i, rfl⟩ | ⟨s, rfl⟩ | ⟨_, xs, rfl, h, hxs⟩
    · unfold toP at ex; cases ex
      rcases sd_cases hy with ⟨j, rfl⟩ | ⟨t, rfl⟩ | ⟨k, ys, rfl, rfl, hys⟩
      · unfold toP at ey; cases ey
        simp [PyData.eqv]
      · unfold toP at ey; cases ey
        simp [PyData.eqv]
      · unfold toP at ey
        cases z : toPs ys with
        | none => rw [z] at ey; cases ey
        | some qs => rw [z] at ey; cases ey; simp [PyData.eqv]
    · unfold toP at ex; cases ex
      rcases sd_cases hy with ⟨j, rfl⟩ | ⟨t, rfl⟩ | ⟨k, ys, rfl, rfl, hys⟩
      · unfold toP at ey; cases ey
        simp [PyData.eqv]
      · unfold toP at ey; cases ey
        simp only [PyData.eqv, beq_iff_eq, D.str.injEq]
        exact ⟨fun h => mkS_inj h, fun h => by rw [h]⟩
      · unfold toP at ey
        cases z : toPs ys with
        | none => rw [z] at ey; cases ey
        | some qs => rw [z] at ey; cases ey; simp [PyData.eqv]
    · cases h
      unfold toP at ex
      cases zx : toPs xs with
      | none => rw [zx] at ex; cases ex
      | some ps =>
        rw [zx] at ex; cases ex
        rcases sd_cases hy with ⟨j, rfl⟩ | ⟨t, rfl⟩ | ⟨k, ys, rfl, rfl, hys⟩
        · unfold toP at ey; cases ey
          simp [PyData.eqv]
        · unfold toP at ey; cases ey
          simp [PyData.eqv]
        · unfold toP at ey
          cases zy : toPs ys with
          | none => rw [zy] at ey; cases ey
          | some qs =>
            rw [zy] at ey; cases ey
            have key : ∀ (xs ys : List D) (ps qs : List PyData), (∀ x, x ∈ xs → sdat n x = true) → (∀ y, y ∈ ys → sdat k y = true) → toPs xs = some ps → toPs ys = some qs → (PyData.eqvAll ps qs = true ↔ xs = ys) := by
              intro xs
              induction xs with
              | nil =>
                intro ys ps qs _ _ e1 e2
                unfold toPs at e1; cases e1
                cases ys with
                | nil => unfold toPs at e2; cases e2; simp [PyData.eqvAll]
                | cons y ys =>
                  unfold toPs at e2
                  cases w : toP y with
                  | none => rw [w] at e2; cases e2
                  | some q => cases w2 : toPs ys with
                    | none => rw [w, w2] at e2; cases e2
                    | some qs' => rw [w, w2] at e2; cases e2; simp [PyData.eqvAll]
              | cons x xs ihl =>
                intro ys ps qs h1 h2 e1 e2
                unfold toPs at e1
                cases v : toP x with
                | none => rw [v] at e1; cases e1
                | some p => cases v2 : toPs xs with
                  | none => rw [v, v2] at e1; cases e1
                  | some ps' =>
                    rw [v, v2] at e1; cases e1
                    cases ys with
                    | nil => unfold toPs at e2; cases e2; simp [PyData.eqvAll]
                    | cons y ys =>
                      unfold toPs at e2
                      cases w : toP y with
                      | none => rw [w] at e2; cases e2
                      | some q => cases w2 : toPs ys with
                        | none => rw [w, w2] at e2; cases e2
                        | some qs' =>
                          rw [w, w2] at e2; cases e2
                          have a := ih k x y p q (h1 x List.mem_cons_self) (h2 y List.mem_cons_self) v w
                          have b := ihl ys ps' qs' (fun z hz => h1 z (List.mem_cons_of_mem _ hz)) (fun z hz => h2 z (List.mem_cons_of_mem _ hz)) v2 w2
                          simp only [PyData.eqvAll, Bool.and_eq_true, List.cons.injEq]
                          exact and_congr a b
            simp only [PyData.eqv, D.tup.injEq]
            exact key xs ys ps qs hxs hys zx zy
theorem dEq_tup {n : Nat} {xs ys : List D} (hx : sdat n (.tup xs) = true) (hy : sdat n (.tup ys) = true) (hn : n ≤ 64) : ∃ b, dEq (.tup xs) (.tup ys) = some b ∧ (b = true ↔ D.tup xs = .tup ys) := by
  obtain ⟨p, a1, a2, a3⟩ := sd_toP n _ hx
  obtain ⟨q, b1, b2, b3⟩ := sd_toP n _ hy
  refine ⟨PyData.eqv p q, ?_, sd_eqv n n _ _ p q hx hy a1 b1⟩
  show dEqDeep _ _ = _
  unfold dEqDeep
  rw [a1, b1]
  dsimp only
  rw [if_pos]
  unfold SeqAt.shaped
  rw [a2, b2, decide_eq_true (by omega : p.depth ≤ 64), decide_eq_true (by omega : q.depth ≤ 64)]
  rfl
theorem sd_part (f : List Nat → Int) (l : List (List Nat)) (n : Nat) (h : ∀ s, s ∈ l → ∀ c, c ∈ s → c < 200) : sdat (n + 2) (partD f l) = true := by
  unfold partD sdat
  rw [List.all_eq_true]
  intro d hd
  obtain ⟨s, hs, rfl⟩ := List.mem_map.mp hd
  have hs' := h s (List.mem_filter.mp hs).1
  have : (s.all fun c => decide (c < 200)) = true := by
    rw [List.all_eq_true]
    exact fun c hc => decide_eq_true (hs' c hc)
  simp only [reD, sdat, List.all_cons, List.all_nil, this, Bool.and_true, Bool.and_self]
theorem letters_lets {s : List Nat} (h : RowL s) {x : Nat} (hx : x ∈ lettersL s) : x ∈ lets := plain_lets h x ((plain_mem h).mpr hx)
theorem sd_form {s : List Nat} (h : RowL s) (n : Nat) : sdat (n + 3) (formD s) = true := by
  have sm : ∀ x, x ∈ lettersL s → x < 200 := fun x hx => by
    have := lets_mem.mp (letters_lets h hx)
    omega
  have p1 := sd_part (g1 (plainL s)) (names1 (lettersL s)) n fun t ht c hc => by
    obtain ⟨x, rfl, hx⟩ := names1_mem.mp ht
    rw [List.mem_singleton] at hc; rw [hc]; exact sm x hx
  have p2 := sd_part (g2 (plainL s)) (names2 (lettersL s)) n fun t ht c hc => by
    obtain ⟨x, y, rfl, hx, hy, _⟩ := names2_mem.mp ht
    simp at hc
    rcases hc with rfl | rfl
    · exact sm _ hx
    · exact sm _ hy
  have p3 := sd_part (g3 (plainL s)) (names3 (lettersL s)) n fun t ht c hc => by
    obtain ⟨x, y, z, rfl, hx, hy, hz, _⟩ := names3_mem.mp ht
    simp at hc
    rcases hc with rfl | rfl | rfl
    · exact sm _ hx
    · exact sm _ hy
    · exact sm _ hz
  unfold formD formP sdat
  simp [p1, p2, p3]
/-- two forms, compared -/
def feq (s t : List Nat) : Bool := (dEq (formD s) (formD t)).getD false
theorem feq_form {s t : List Nat} (hs : RowL s) (ht : RowL t) : dEq (formD s) (formD t) = some (feq s t) ∧ (feq s t = true ↔ formD s = formD t) := by
  obtain ⟨b, h1, h2⟩ := dEq_tup (n := 3) (sd_form hs 0) (sd_form ht 0) (by omega)
  have : feq s t = b := by
    unfold feq
    show (dEq (.tup _) (.tup _)).getD false = b
    rw [h1]; rfl
  rw [this]
  exact ⟨h1, h2⟩
theorem dNe_form {s t : List Nat} (hs : RowL s) (ht : RowL t) : dNe (formD s) (formD t) = some (!feq s t) := by
  unfold dNe
  rw [(feq_form hs ht).1]
  rfl
/-! ### alike, do_commute, commuting_letters -/
section
variable {ρ ρ1 ρ2 : Env} {S S1 S2 : Store}
theorem mB_ok {m : M Bool} {b : Bool} (h : m ρ S = .ok b ρ1 S1) : mB m ρ S = .ok (.bl b) ρ1 S1 := by
  unfold mB
  rw [b_ok h]
  rfl
theorem join_lets {m : M D} {l : List Nat} (h : m ρ S = .ok (.lst (l.map chD)) ρ1 S1) (hl : l.length < 1000000) : mM1 dJoin (mK (mC (.str []))) (mK m) ρ S = .ok (.str l) ρ1 S1 := by
  have e : dJoin (.str []) (.lst (l.map chD)) = some (.str l) := by
    unfold dJoin
    dsimp only [sqOf]
    rw [strsD_map (fun c => [c])]
    dsimp only
    have := sum_le (g := fun c => [c]) (k := 1) (s := l) fun c _ => Nat.le_refl _
    rw [if_pos (by simp only [List.length_nil, Nat.mul_zero]; omega), joinL_nil, flat_one]
  unfold mM1
  rw [b_ok (mk_ok c_ok)]
  unfold M.look
  simp only [Pk.get, view]
  rw [b_ok (mk_ok h)]
  simp only [Pk.get, view, e, M.opt]
theorem add_ok {i j : Nat} {s t : List Nat} (hi : ρ[i]? = some (.val (.str s))) (hj : ρ[j]? = some (.val (.str t))) (h : s.length + t.length ≤ 16777216) : M.frz (mOp dAdd (mPk i) (mPk j)) ρ S = .ok (.str (s ++ t)) ρ S :=
  fop_ok (x := .str s) (y := .str t) (pk_ok hi rfl) (pk_ok hj rfl) (pg_ok hi rfl) (pg_ok hj rfl) (add_str h)
end
theorem alike_spec {s t : List Nat} {S : Store} (hs : RowL s) (ht : RowL t) (h1 : s.length < 4000) (h2 : t.length < 4000) : m_alike [.str s, .str t] S = .ok (.val (.bl (feq s t))) S := by
  have c1 := form_spec (S := S) hs h1
  have c2 := form_spec (S := S) ht h2
  unfold m_alike
  exact def_rt (r := .val (.bl (feq s t))) rfl (ret_ok (vl_ok (mB_ok (cmp_ok (x := formD s) (y := formD t) (mk_ok (cv1 (var_ok rfl) c1)) (mk_ok (cv1 (var_ok rfl) c2)) rfl rfl (feq_form hs ht).1))))
theorem commute_spec {s t : List Nat} {S : Store} (hs : RowL s) (ht : RowL t) (h1 : s.length < 1500) (h2 : t.length < 1500) : m_do_commute [.str s, .str t] S = .ok (.val (.bl (feq (s ++ t) (t ++ s)))) S := by
  have c1 := alike_spec (S := S) (rowL_app hs ht) (rowL_app ht hs) (by simp; omega) (by simp; omega)
  unfold m_do_commute
  exact def_rt (r := .val (.bl (feq (s ++ t) (t ++ s)))) rfl (ret_ok (call_ok (cons_ok (add_ok rfl rfl (by omega)) (cons_ok (add_ok rfl rfl (by omega)) nil_ok)) c1))
theorem rowL_one {c : Nat} (h : c ∈ lets) : RowL [c] := fun x hx => by
  rw [List.mem_singleton] at hx
  rw [hx]
  exact isL_iff.mpr (.inl (lets_mem.mp h))
def comL (s : List Nat) : List Nat := lets.filter fun c => feq (s ++ [c]) ([c] ++ s)
theorem map_chD_filter {p : Nat → Bool} {pd : D → Bool} (l : List Nat) (h : ∀ c, pd (chD c) = p c) : ((l.map chD).filter pd).map id = (l.filter p).map chD := by
  rw [List.map_id, List.filter_map]
  congr 1
  exact List.filter_congr fun c _ => h c
theorem comL_len (s : List Nat) : (comL s).length < 1000000 := by
  have := List.length_filter_le (fun c => feq (s ++ [c]) ([c] ++ s)) lets
  have h8 : lets.length = 8 := rfl
  unfold comL; omega
theorem commuting_spec {s : List Nat} {S : Store} (hs : RowL s) (h1 : s.length < 1000) : m_commuting_letters [.str s] S = .ok (.val (.str (comL s))) S := by
  have e := lc1_filter (ρ := [.val (.str s), .un]) (S := S) (v := 1) (mi := mItA (mC (.str [97, 98, 99, 100, 101, 102, 103, 104]))) (tt := p_commuting_letters_1) (te := mVar 1) (ds := lets.map chD) (sl := .un)
    (fun d => match d with | .str [c] => feq (s ++ [c]) ([c] ++ s) | _ => false) id (itA_ok c_ok rfl) rfl (.inl rfl) (by decide) (fun d hd => by
      obtain ⟨c, hc, rfl⟩ := List.mem_map.mp hd
      unfold p_commuting_letters_1
      exact bl_ok (cv2 (var_ok rfl) (var_ok rfl) (commute_spec hs (rowL_one hc) (by omega) (by simp)))) (fun d _ _ => var_ok rfl)
  rw [map_chD_filter lets (p := fun c => feq (s ++ [c]) ([c] ++ s)) fun c => rfl] at e
  unfold m_commuting_letters
  exact def_rt (r := .val (.str (comL s))) rfl (ret_ok (vl_ok (join_lets (own_ok e) (comL_len s))))
theorem swapped_spec {s t : List Nat} {S : Store} (hs : RowL s) (ht : RowL t) (h1 : s.length < 1000) (h2 : t.length < 1000) : m__law_swapped [.str s, .str t] S = .ok (.val (.str (backL s ++ backL t ++ s ++ t))) S := by
  have c1 := back_spec (S := S) hs (by omega)
  have c2 := back_spec (S := S) ht (by omega)
  obtain ⟨f1, f2, f3⟩ := flip_row hs
  obtain ⟨g1, g2, g3⟩ := flip_row ht
  unfold m__law_swapped
  exact def_rt (r := .val (.str (backL s ++ backL t ++ s ++ t))) rfl (ret_ok (op_ok (x := .str (backL s ++ backL t ++ s)) (y := .str t) (mk_ok (fop_ok (x := .str (backL s ++ backL t)) (y := .str s) (mk_ok (fop_ok (x := .str (backL s)) (y := .str (backL t)) (mk_ok (cv1 (var_ok rfl) c1)) (mk_ok (cv1 (var_ok rfl) c2)) rfl rfl (add_str (by rw [f2, g2]; omega)))) (pk_ok rfl rfl) rfl (pg_ok rfl rfl) (add_str (by rw [List.length_append, f2, g2]; omega)))) (pk_ok rfl rfl) rfl (pg_ok rfl rfl) (add_str (by rw [List.length_append, List.length_append, f2, g2]; omega))))
theorem swapped_row {s t : List Nat} (hs : RowL s) (ht : RowL t) : RowL (backL s ++ backL t ++ s ++ t) ∧ (backL s ++ backL t ++ s ++ t).length = 2 * s.length + 2 * t.length := by
  obtain ⟨f1, f2, f3⟩ := flip_row hs
  obtain ⟨g1, g2, g3⟩ := flip_row ht
  refine ⟨rowL_app (rowL_app (rowL_app f1 g1) hs) ht, ?_⟩
  simp only [List.length_append, f2, g2]
  omega
theorem feq_comm {s t : List Nat} (hs : RowL s) (ht : RowL t) : feq s t = feq t s := by
  have a := (feq_form hs ht).2
  have b := (feq_form ht hs).2
  by_cases h : formD s = formD t
  · rw [a.mpr h, b.mpr h.symm]
  · have h1 : feq s t = false := by
      cases q : feq s t with
      | true => exact absurd (a.mp q) h
      | false => rfl
    have h2 : feq t s = false := by
      cases q : feq t s with
      | true => exact absurd (b.mp q).symm h
      | false => rfl
    rw [h1, h2]
section
variable {ρ ρ1 ρ2 : Env} {S S1 S2 : Store}
theorem mIf_t {α : Type} {c : M Bool} {m n : M α} (h : c ρ S = .ok true ρ1 S1) : mIf c m n ρ S = m ρ1 S1 := by unfold mIf; rw [b_ok h]; rfl
theorem mIf_f {α : Type} {c : M Bool} {m n : M α} (h : c ρ S = .ok false ρ1 S1) : mIf c m n ρ S = n ρ1 S1 := by unfold mIf; rw [b_ok h]; rfl
/-- a slot's number, compared with a number -/
theorem cmpI {f : D → D → Option Bool} {i : Nat} {a k : Int} {b : Bool} (hi : ρ[i]? = some (.val (.int a))) (h : f (.int a) (.int k) = some b) : mCmp f (mPk i) (mK (mC (.int k))) ρ S = .ok b ρ S :=
  cmp_ok (x := .int a) (y := .int k) (pk_ok hi rfl) (mk_ok c_ok) (pg_ok hi rfl) rfl h
/-- _law_row(box, 1 + _law_take(box, k), long) -/
theorem row_take {n t : Nat} {k long : Int} {z : Nat} (h : Bx S n t) (h0 : ρ[z]? = some (.val (.cel n))) (ht : t + 1001 + 2 * long.toNat < 1000000000) (hk : 0 < k) (hk2 : k ≤ 8) (hl : 0 ≤ long) (hl2 : long < 10000) :
    ∃ w S2, mCall0 m__law_row (mCons (mVar z) (mCons (M.frz (mOp dAdd (mK (mC (.int 1))) (mK (M.frz (mCall0 m__law_take (mCons (mVar z) (mCons (mC (.int k)) mNil))))))) (mCons (mC (.int long)) mNil))) ρ S = .ok (.val (.str w)) ρ S2 ∧ RowL w ∧ (w.length : Int) ≤ long ∧ Bx S2 n (t + 1001 + 2 * long.toNat) := by
  obtain ⟨r, S1, e1, a0, a1, hb1⟩ := take_spec (k := k) h (by omega) hk (by omega)
  obtain ⟨w, S2, e2, hw, hwl, hb2⟩ := row_spec (many := 1 + r) (long := long) hb1 (by omega) (by omega) (by omega) hl hl2
  exact ⟨w, S2, call_ok (cons_ok (var_ok h0) (cons_ok (fop_ok (x := .int 1) (y := .int r) (d := .int (1 + r)) (mk_ok c_ok) (mk_ok (cv2 (var_ok h0) c_ok e1)) rfl rfl rfl) (cons_ok c_ok nil_ok))) e2, hw, hwl, hb2.mono (by omega)⟩
theorem row_plain {n t : Nat} {many long : Int} {z : Nat} (h : Bx S n t) (h0 : ρ[z]? = some (.val (.cel n))) (ht : t + 1000 + 2 * long.toNat < 1000000000) (hk : 1 ≤ many) (hk2 : many ≤ 8) (hl : 0 ≤ long) (hl2 : long < 10000) :
    ∃ w S2, mCall0 m__law_row (mCons (mVar z) (mCons (mC (.int many)) (mCons (mC (.int long)) mNil))) ρ S = .ok (.val (.str w)) ρ S2 ∧ RowL w ∧ (w.length : Int) ≤ long ∧ Bx S2 n (t + 1000 + 2 * long.toNat) := by
  obtain ⟨w, S2, e2, hw, hwl, hb2⟩ := row_spec (many := many) (long := long) h (by omega) hk hk2 hl hl2
  exact ⟨w, S2, call_ok (cons_ok (var_ok h0) (cons_ok c_ok (cons_ok c_ok nil_ok))) e2, hw, hwl, hb2⟩
end
end Thr
namespace Thr
open PySem PySem.Spec PyProof.Rows L2 RZ Sh

/-! ### the same forms: the same counts -/
theorem part_sub {f g : List Nat → Int} {l m : List (List Nat)} (h : (l.filter (nz f)).map (reD f) = (m.filter (nz g)).map (reD g)) {s : List Nat} (hs : s ∈ l) (hn : nz f s = true) : nz g s = true ∧ f s % 3 = g s % 3 := by
  have h1 : reD f s ∈ (m.filter (nz g)).map (reD g) := by
    rw [← h]
    exact List.mem_map.mpr ⟨s, List.mem_filter.mpr ⟨hs, hn⟩, rfl⟩
  obtain ⟨t, ht, e⟩ := List.mem_map.mp h1
  unfold reD at e
  simp only [D.tup.injEq, List.cons.injEq, D.str.injEq, D.int.injEq, and_true] at e
  obtain ⟨e1, e2⟩ := e
  subst e1
  exact ⟨(List.mem_filter.mp ht).2, e2.symm⟩
theorem nz_false {f : List Nat → Int} {s : List Nat} (h : nz f s = false) : f s % 3 = 0 := by
  unfold nz at h
  simpa using h
theorem part_cg {f g : List Nat → Int} {l m : List (List Nat)} (h : partD f l = partD g m) {s : List Nat} (h1 : ¬ s ∈ l → f s = 0) (h2 : ¬ s ∈ m → g s = 0) : cg (f s) (g s) := by
  unfold partD at h
  rw [D.tup.injEq] at h
  cases a : nz f s with
  | true =>
    have hs : s ∈ l := Classical.byContradiction fun hn => by
      rw [nz_zero (h1 hn)] at a; cases a
    exact cg_of (part_sub h hs a).2
  | false =>
    cases b : nz g s with
    | true =>
      have hs : s ∈ m := Classical.byContradiction fun hn => by
        rw [nz_zero (h2 hn)] at b; cases b
      have := (part_sub h.symm hs b).1
      rw [a] at this; cases this
    | false => exact cg_of (by rw [nz_false a, nz_false b])
theorem z2_of {p ls : List Nat} {x y : Nat} (hp : ∀ x, x ∈ p → x ∈ ls) (hxy : x < y) (hn : ¬ [x, y] ∈ names2 ls) : n2 x y p = 0 := by
  by_cases hx : x ∈ p
  · by_cases hy : y ∈ p
    · exact absurd (names2_mem.mpr ⟨x, y, rfl, hp x hx, hp y hy, hxy⟩) hn
    · exact n2_zero (.inr hy)
  · exact n2_zero (.inl hx)
theorem z3_of {p ls : List Nat} {x y z : Nat} (hp : ∀ x, x ∈ p → x ∈ ls) (hxy : x < y) (hyz : y < z) (hn : ¬ [x, y, z] ∈ names3 ls) : (n3 x y z p : Int) - (n3 y x z p : Nat) = 0 := by
  have hh : ¬ x ∈ p ∨ ¬ y ∈ p ∨ ¬ z ∈ p := by
    by_cases hx : x ∈ p
    · by_cases hy : y ∈ p
      · by_cases hz : z ∈ p
        · exact absurd (names3_mem.mpr ⟨x, y, z, rfl, hp x hx, hp y hy, hp z hz, hxy, hyz⟩) hn
        · exact .inr (.inr hz)
      · exact .inr (.inl hy)
    · exact .inl hx
  rw [n3_zero hh, n3_zero (x := y) (y := x) (hh.elim (fun q => .inr (.inl q)) fun q => q.elim .inl fun q => .inr (.inr q))]
  rfl
theorem eqC_form {s t : List Nat} (hs : RowL s) (ht : RowL t) (h : formD s = formD t) : EqC (plainL s) (plainL t) := by
  unfold formD formP at h
  simp only [D.tup.injEq, List.cons.injEq, and_true] at h
  obtain ⟨a1, a2, a3⟩ := h
  have ps : ∀ x, x ∈ plainL s → x ∈ lettersL s := fun x => (plain_mem hs).mp
  have pt : ∀ x, x ∈ plainL t → x ∈ lettersL t := fun x => (plain_mem ht).mp
  refine eqC_of (fun x => ?_) (fun x y hxy => ?_) fun x y z hxy hyz => ?_
  · exact part_cg (s := [x]) a1 (fun hn => by
      show ((n1 x (plainL s) : Nat) : Int) = 0
      rw [n1_zero fun m => hn (names1_mem.mpr ⟨x, rfl, ps x m⟩)]; rfl) (fun hn => by
      show ((n1 x (plainL t) : Nat) : Int) = 0
      rw [n1_zero fun m => hn (names1_mem.mpr ⟨x, rfl, pt x m⟩)]; rfl)
  · exact part_cg (s := [x, y]) a2 (fun hn => by
      show ((n2 x y (plainL s) : Nat) : Int) = 0
      rw [z2_of ps hxy hn]; rfl) (fun hn => by
      show ((n2 x y (plainL t) : Nat) : Int) = 0
      rw [z2_of pt hxy hn]; rfl)
  · exact part_cg (s := [x, y, z]) a3 (fun hn => z3_of ps hxy hyz hn) (fun hn => z3_of pt hxy hyz hn)
theorem form_iff {s t : List Nat} (hs : RowL s) (ht : RowL t) : formD s = formD t ↔ EqC (plainL s) (plainL t) := ⟨eqC_form hs ht, formD_eq hs ht⟩
theorem feq_iff {s t : List Nat} (hs : RowL s) (ht : RowL t) : feq s t = true ↔ EqC (plainL s) (plainL t) := (feq_form hs ht).2.trans (form_iff hs ht)
/-! ### is_still -/
def stillB (s : List Nat) : Bool := decide (((names1 (lettersL s)).filter (nz (g1 (plainL s)))).length = 0) && decide (((names2 (lettersL s)).filter (nz (g2 (plainL s)))).length = 0)
theorem plain_one {c : Nat} (h : c ∈ lets) : plainL [c] = [c] := by
  show plainC c ++ [] = [c]
  unfold plainC
  rw [if_pos h]
  rfl
theorem filt0 {l : List (List Nat)} {f : List Nat → Int} : (l.filter (nz f)).length = 0 ↔ ∀ s, s ∈ l → f s % 3 = 0 := by
  rw [List.length_eq_zero_iff, List.filter_eq_nil_iff]
  constructor
  · intro h s hs
    exact nz_false (by simpa using h s hs)
  · intro h s hs
    unfold nz
    simp [h s hs]
theorem still_cen {s : List Nat} (h : RowL s) : stillB s = true ↔ Cen (plainL s) := by
  unfold stillB
  rw [Bool.and_eq_true, decide_eq_true_eq, decide_eq_true_eq, filt0, filt0]
  have ps : ∀ x, x ∈ plainL s → x ∈ lettersL s := fun x => (plain_mem h).mp
  constructor
  · rintro ⟨a, b⟩
    have k1 : ∀ x, cg (n1 x (plainL s) : Nat) 0 := fun x => by
      by_cases hx : [x] ∈ names1 (lettersL s)
      · exact cg_of (a _ hx)
      · rw [n1_zero fun m => hx (names1_mem.mpr ⟨x, rfl, ps x m⟩)]
        exact cg.refl 0
    have k2 : ∀ x y, x < y → cg (n2 x y (plainL s) : Nat) 0 := fun x y hxy => by
      by_cases hx : [x, y] ∈ names2 (lettersL s)
      · exact cg_of (b _ hx)
      · rw [z2_of ps hxy hx]
        exact cg.refl 0
    refine ⟨k1, fun x y n => ?_⟩
    rcases Nat.lt_or_gt_of_ne n with l | l
    · exact k2 x y l
    · have m := cg0_mul (k1 x) (n1 y (plainL s) : Nat)
      rw [← Int.natCast_mul, ← n2_sum n] at m
      obtain ⟨k, hk⟩ := m
      obtain ⟨l, hl⟩ := k2 y x l
      exact ⟨k - l, by simp only [Int.natCast_add] at hk; omega⟩
  · rintro ⟨k1, k2⟩
    refine ⟨fun t ht => ?_, fun t ht => ?_⟩
    · obtain ⟨x, rfl, hx⟩ := names1_mem.mp ht
      exact (k1 x).emod
    · obtain ⟨x, y, rfl, hx, hy, hxy⟩ := names2_mem.mp ht
      exact (k2 x y (by omega)).emod
theorem still_all {s : List Nat} (h : RowL s) (hs : stillB s = true) {t : List Nat} (ht : RowL t) : feq (s ++ t) (t ++ s) = true := by
  rw [feq_iff (rowL_app h ht) (rowL_app ht h), plainL_app, plainL_app]
  exact ((still_cen h).mp hs).com _
theorem all_still {s : List Nat} (h : RowL s) (ha : ∀ c, c ∈ lets → feq (s ++ [c]) ([c] ++ s) = true) : stillB s = true := by
  rw [still_cen h]
  refine com_cen (L := lets) (plain_lets h) (fun x => ?_) (fun x y => ?_) fun c hc => ?_
  · by_cases e : x = 97
    · exact ⟨98, by decide, by omega⟩
    · exact ⟨97, by decide, fun q => e q.symm⟩
  · by_cases a : x = 97 ∨ y = 97
    · by_cases b : x = 98 ∨ y = 98
      · exact ⟨99, by decide, by omega, by omega⟩
      · exact ⟨98, by decide, by omega, by omega⟩
    · exact ⟨97, by decide, by omega, by omega⟩
  · have := ha c hc
    rw [feq_iff (rowL_app h (rowL_one hc)) (rowL_app (rowL_one hc) h), plainL_app, plainL_app, plain_one hc] at this
    exact this
theorem andV_ok {m n : M D} {ρ ρ1 : Env} {S S1 : Store} {a b : Bool} (h : m ρ S = .ok (.bl a) ρ1 S1) (h' : a = true → n ρ1 S1 = .ok (.bl b) ρ1 S1) : mAndV m n ρ S = .ok (.bl (a && b)) ρ1 S1 := by
  unfold mAndV
  rw [b_ok (bl_ok h)]
  cases a with
  | true => rw [if_pos rfl, h' rfl]; rfl
  | false => rfl
theorem still_spec {s : List Nat} {S : Store} (h : RowL s) (hl : s.length < 4000) : m_is_still [.str s] S = .ok (.val (.bl (stillB s))) S := by
  have c1 := form_spec (S := S) h hl
  have e1 : sAsg (M.frz (mCall0 m_form_of (mCons (mVar 0) mNil))) (tgT [1, 2, 3]) [.val (.str s), .un, .un, .un] S = .ok .nx [.val (.str s), .val (partD (g1 (plainL s)) (names1 (lettersL s))), .val (partD (g2 (plainL s)) (names2 (lettersL s))), .val (partD (g3 (plainL s)) (names3 (lettersL s)))] S := by
    unfold sAsg
    rw [b_ok (cv1 (var_ok rfl) c1)]
    rfl
  have len : ∀ (i : Nat) (f : List Nat → Int) (l : List (List Nat)) (ρ : Env), ρ[i]? = some (.val (partD f l)) → mB (mCmp dEq (mK (M.frz (mCallB fLen (mKCons (mPk i) mKNil)))) (mK (mC (.int 0)))) ρ S = .ok (.bl (decide ((l.filter (nz f)).length = 0))) ρ S := fun i f l ρ hi => by
    refine mB_ok (cmp_ok (x := .int ((l.filter (nz f)).length : Nat)) (y := .int 0) (mk_ok (val_ok (d := .int ((l.filter (nz f)).length : Nat)) (callB1_ok (x := partD f l) (pk_ok hi rfl) (pg_ok hi rfl) ?_))) (mk_ok c_ok) rfl rfl ?_)
    · show some (RV.val (.int (((l.filter (nz f)).map (reD f)).length : Nat))) = _
      rw [List.length_map]
    · show some (decide (((l.filter (nz f)).length : Int) = 0)) = _
      congr 1
      exact decide_eq_decide.mpr (by omega)
  unfold m_is_still
  exact def_rt (r := .val (.bl (stillB s))) rfl ((seq_nx e1).trans (ret_ok (vl_ok (andV_ok (len 1 _ _ _ rfl) fun _ => len 2 _ _ _ rfl))))
end Thr
namespace Thr
open PySem PySem.Spec PyProof.Rows L2 RZ Sh

/-! ### loops over places, told by what is left -/
theorem rng_cons (lo : Int) (n : Nat) : rng lo (n + 1) = .int lo :: rng (lo + 1) n := by
  unfold rng
  rw [List.range_succ_eq_map, List.map_cons, List.map_map]
  congr 1
  · simp
  · refine List.map_congr_left fun i _ => ?_
    simp only [Function.comp]
    congr 1
    simp only [Nat.succ_eq_add_one, Int.natCast_add]
    omega
theorem forL_sfx {α : Type} {tg : D → M Fl} {body : M Fl} (p : List α) (I : List α → Env → Store → Prop)
    (st : ∀ (i : Nat) c r, p[i]? = some c → p.drop i = c :: r → p.drop (i + 1) = r → ∀ ρ S, I (c :: r) ρ S → ∃ ρ1 S1 f ρ2 S2, tg (.int (i : Nat)) ρ S = .ok .nx ρ1 S1 ∧ body ρ1 S1 = .ok f ρ2 S2 ∧ (f = .nx ∨ f = .ct) ∧ I r ρ2 S2) :
    ∀ (v : List α) (lo : Nat) (ρ : Env) (S : Store), p.drop lo = v → I v ρ S → ∃ ρ' S', forL tg body (rng (lo : Nat) v.length) ρ S = .ok .nx ρ' S' ∧ I [] ρ' S'
  | [], lo, ρ, S, _, h => ⟨ρ, S, rfl, h⟩
  | c :: r, lo, ρ, S, hd, h => by
    have hlt : lo < p.length := by
      have := congrArg List.length hd
      simp at this; omega
    have e := List.drop_eq_getElem_cons hlt
    rw [hd] at e
    have e1 : p[lo]? = some c := by
      rw [List.getElem?_eq_getElem hlt]
      injection e with e2 e3
      rw [e2]
    have e4 : p.drop (lo + 1) = r := by
      injection e with e2 e3
      exact e3.symm
    obtain ⟨ρ1, S1, f, ρ2, S2, q1, q2, hf, h2⟩ := st lo c r e1 hd e4 ρ S h
    obtain ⟨ρ', S', q3, h3⟩ := forL_sfx p I st r (lo + 1) ρ2 S2 e4 h2
    refine ⟨ρ', S', ?_, h3⟩
    rw [List.length_cons, rng_cons]
    unfold forL
    rw [q1]
    dsimp only
    rw [q2]
    rcases hf with rfl | rfl <;> exact q3
theorem ix_at {p : List Nat} {i c : Nat} (h : p[i]? = some c) (hl : p.length ≤ 16777216) : dIx (.str p) (.int (i : Nat)) = some (.str [c]) := by
  unfold dIx
  dsimp only
  rw [if_pos (by rw [SZ_is]; exact hl)]
  unfold atD
  rw [if_pos (by omega), Int.toNat_natCast, h]
  rfl
/-! ### counts of what is left -/
theorem n1_cons (x c : Nat) (r : List Nat) : n1 x (c :: r) = b2n (c == x) + n1 x r := by
  have := n1_count x (c :: r)
  rw [List.count_cons] at this
  rw [this, n1_count, Nat.add_comm]
  unfold b2n
  rfl
theorem r2_snoc' (x y : Nat) : ∀ (a : List Nat) (c : Nat), r2 x y (a ++ [c]) = r2 x y a + b2n (c == x) * r1 y a
  | [], c => by simp [r2, r1]
  | d :: a, c => by
    show r2 x y (a ++ [c]) + r1 x (a ++ [c]) * b2n (d == y) = _
    have e : ∀ b : List Nat, r1 x (b ++ [c]) = r1 x b + b2n (c == x) := fun b => by
      induction b with
      | nil => show 0 + b2n (c == x) = 0 + b2n (c == x); rfl
      | cons d b ih =>
        show r1 x (b ++ [c]) + b2n (d == x) = r1 x b + b2n (d == x) + b2n (c == x)
        rw [ih]; omega
    rw [r2_snoc' x y a c, e]
    show _ = r2 x y a + r1 x a * b2n (d == y) + b2n (c == x) * (r1 y a + b2n (d == y))
    rw [Nat.add_mul, Nat.mul_add]
    omega
theorem r3_snoc' (x y z : Nat) : ∀ (a : List Nat) (c : Nat), r3 x y z (a ++ [c]) = r3 x y z a + b2n (c == x) * r2 y z a
  | [], c => by simp [r3, r2, r1]
  | d :: a, c => by
    show r3 x y z (a ++ [c]) + r2 x y (a ++ [c]) * b2n (d == z) = _
    rw [r3_snoc' x y z a c, r2_snoc']
    show _ = r3 x y z a + r2 x y a * b2n (d == z) + b2n (c == x) * (r2 y z a + r1 y a * b2n (d == z))
    rw [Nat.add_mul, Nat.mul_add, Nat.mul_assoc]
    omega
theorem n2_cons (x y c : Nat) (r : List Nat) : n2 x y (c :: r) = n2 x y r + b2n (c == x) * n1 y r := by
  unfold n2 n1
  rw [List.reverse_cons, r2_snoc']
theorem n3_cons (x y z c : Nat) (r : List Nat) : n3 x y z (c :: r) = n3 x y z r + b2n (c == x) * n2 y z r := by
  unfold n3 n2
  rw [List.reverse_cons, r3_snoc']
/-! ### _law_due: the counting -/
structure Kb (all K : List (List Nat)) : Prop where
  nd : K.Nodup
  sub : ∀ s, s ∈ K → s ∈ all
theorem Kb.len {all K : List (List Nat)} (h : Kb all K) : K.length ≤ all.length := nd_len h.nd h.sub
theorem Kb.add {all K : List (List Nat)} (h : Kb all K) {s : List Nat} (hs : s ∈ all) : Kb all (addK K s) :=
  ⟨addK_nodup h.nd, fun t ht => (addK_mem.mp ht).elim (h.sub t) fun e => e ▸ hs⟩
def sq2 : List (List Nat) := lets.flatMap fun x => lets.map fun y => [x, y]
def sq3 : List (List Nat) := lets.flatMap fun x => lets.flatMap fun y => lets.map fun z => [x, y, z]
theorem sq2_mem {x y : Nat} (hx : x ∈ lets) (hy : y ∈ lets) : [x, y] ∈ sq2 := List.mem_flatMap.mpr ⟨x, hx, List.mem_map.mpr ⟨y, hy, rfl⟩⟩
theorem sq3_mem {x y z : Nat} (hx : x ∈ lets) (hy : y ∈ lets) (hz : z ∈ lets) : [x, y, z] ∈ sq3 := List.mem_flatMap.mpr ⟨x, hx, List.mem_flatMap.mpr ⟨y, hy, List.mem_map.mpr ⟨z, hz, rfl⟩⟩⟩
theorem sq2_len : sq2.length = 64 := by decide
theorem sq3_len : sq3.length = 512 := by decide +kernel
end Thr
namespace Thr
open PySem PySem.Spec PyProof.Rows L2 RZ Sh

/-! ### the rests of a form, and forms put together: plain -/
def gA (p : List Nat) : List Nat → Int
  | [x] => (n1 x p : Nat)
  | [x, y] => (n2 x y p : Nat)
  | [x, y, z] => (n3 x y z p : Nat) - (n3 y x z p : Nat)
  | _ => 0
def fN1 (s : List Nat) : List (List Nat) := (names1 (lettersL s)).filter (nz (g1 (plainL s)))
def fN2 (s : List Nat) : List (List Nat) := (names2 (lettersL s)).filter (nz (g2 (plainL s)))
def fN3 (s : List Nat) : List (List Nat) := (names3 (lettersL s)).filter (nz (g3 (plainL s)))
def fN (s : List Nat) : List (List Nat) := fN1 s ++ (fN2 s ++ fN3 s)
def gM (s : List Nat) (n : List Nat) : Int := gA (plainL s) n % 3
def rsF (s n : List Nat) : Int := if n ∈ fN s then gM s n else 0
def LS (s : List Nat) : List Nat := srtD (fN s).flatten
theorem fN_1 {s n : List Nat} (h : n ∈ fN1 s) : ∃ x, n = [x] ∧ x ∈ lettersL s := names1_mem.mp (List.mem_filter.mp h).1
theorem fN_2 {s n : List Nat} (h : n ∈ fN2 s) : ∃ x y, n = [x, y] ∧ x ∈ lettersL s ∧ y ∈ lettersL s ∧ x < y := names2_mem.mp (List.mem_filter.mp h).1
theorem fN_3 {s n : List Nat} (h : n ∈ fN3 s) : ∃ x y z, n = [x, y, z] ∧ x ∈ lettersL s ∧ y ∈ lettersL s ∧ z ∈ lettersL s ∧ x < y ∧ y < z := names3_mem.mp (List.mem_filter.mp h).1
theorem fN_mem {s n : List Nat} : n ∈ fN s ↔ n ∈ fN1 s ∨ n ∈ fN2 s ∨ n ∈ fN3 s := by
  unfold fN
  rw [List.mem_append, List.mem_append]
theorem asc_nd {l : List (List Nat)} (h : l.Pairwise (· < ·)) : l.Nodup := h.imp fun {a b} (e : a < b) => show a ≠ b from fun q => List.lt_irrefl a (by rw [← q] at e; exact e)
theorem fN_nd (s : List Nat) : (fN s).Nodup := by
  have ha := letters_asc s
  have d1 : (fN1 s).Nodup := asc_nd ((names1_asc ha).filter _)
  have d2 : (fN2 s).Nodup := asc_nd ((names2_asc ha).filter _)
  have d3 : (fN3 s).Nodup := asc_nd ((names3_asc ha).filter _)
  unfold fN
  rw [List.nodup_append, List.nodup_append]
  refine ⟨d1, ⟨d2, d3, fun a x b y e => ?_⟩, fun a x b y e => ?_⟩
  · obtain ⟨_, _, rfl, _⟩ := fN_2 x
    obtain ⟨_, _, _, rfl, _⟩ := fN_3 y
    simp at e
  · obtain ⟨_, rfl, _⟩ := fN_1 x
    rcases List.mem_append.mp y with y | y
    · obtain ⟨_, _, rfl, _⟩ := fN_2 y
      simp at e
    · obtain ⟨_, _, _, rfl, _⟩ := fN_3 y
      simp at e
theorem fN_let {s n : List Nat} (h : n ∈ fN s) : n.length ≤ 3 ∧ ∀ c, c ∈ n → c ∈ lettersL s := by
  rcases fN_mem.mp h with h | h | h
  · obtain ⟨x, rfl, hx⟩ := fN_1 h
    exact ⟨by simp, fun c hc => by rw [List.mem_singleton] at hc; subst hc; exact hx⟩
  · obtain ⟨x, y, rfl, hx, hy, _⟩ := fN_2 h
    exact ⟨by simp, fun c hc => by
      simp only [List.mem_cons, List.not_mem_nil, or_false] at hc
      rcases hc with rfl | rfl <;> assumption⟩
  · obtain ⟨x, y, z, rfl, hx, hy, hz, _⟩ := fN_3 h
    exact ⟨by simp, fun c hc => by
      simp only [List.mem_cons, List.not_mem_nil, or_false] at hc
      rcases hc with rfl | rfl | rfl <;> assumption⟩
theorem LS_mem {s : List Nat} {c : Nat} : c ∈ LS s ↔ ∃ n, n ∈ fN s ∧ c ∈ n := by
  unfold LS
  rw [srtD_mem, List.mem_flatten]
theorem LS_sub {s : List Nat} {c : Nat} (h : c ∈ LS s) : c ∈ lettersL s := by
  obtain ⟨n, hn, hc⟩ := LS_mem.mp h
  exact (fN_let hn).2 c hc
theorem rsF_out {s n : List Nat} {c : Nat} (h : ¬ c ∈ LS s) (hc : c ∈ n) : rsF s n = 0 := by
  unfold rsF
  rw [if_neg fun q => h (LS_mem.mpr ⟨n, q, hc⟩)]
theorem cg_mod (a : Int) : cg (a % 3) a := cg_of (by omega)
theorem rs1 {s : List Nat} (h : RowL s) (x : Nat) : cg (rsF s [x]) (n1 x (plainL s) : Nat) := by
  by_cases hx : x ∈ lettersL s
  · by_cases hn : nz (g1 (plainL s)) [x] = true
    · unfold rsF
      rw [if_pos (fN_mem.mpr (.inl (List.mem_filter.mpr ⟨names1_mem.mpr ⟨x, rfl, hx⟩, hn⟩)))]
      exact cg_mod _
    · unfold rsF
      rw [if_neg]
      · exact (cg_of (by have : ((n1 x (plainL s) : Nat) : Int) % 3 = 0 := nz_false (f := g1 (plainL s)) (s := [x]) (by simpa using hn); omega)).symm
      · intro q
        rcases fN_mem.mp q with q | q | q
        · exact hn (List.mem_filter.mp q).2
        · obtain ⟨_, _, e, _⟩ := fN_2 q; simp at e
        · obtain ⟨_, _, _, e, _⟩ := fN_3 q; simp at e
  · rw [rsF_out (c := x) (fun q => hx (LS_sub q)) (by simp), n1_zero fun q => hx ((plain_mem h).mp q)]
    exact cg.refl _
theorem rs2 {s : List Nat} (h : RowL s) {x y : Nat} (hxy : x < y) : cg (rsF s [x, y]) (n2 x y (plainL s) : Nat) := by
  by_cases hm : [x, y] ∈ names2 (lettersL s)
  · by_cases hn : nz (g2 (plainL s)) [x, y] = true
    · unfold rsF
      rw [if_pos (fN_mem.mpr (.inr (.inl (List.mem_filter.mpr ⟨hm, hn⟩))))]
      exact cg_mod _
    · unfold rsF
      rw [if_neg]
      · exact (cg_of (by have : ((n2 x y (plainL s) : Nat) : Int) % 3 = 0 := nz_false (f := g2 (plainL s)) (s := [x, y]) (by simpa using hn); omega)).symm
      · intro q
        rcases fN_mem.mp q with q | q | q
        · obtain ⟨_, e, _⟩ := fN_1 q; simp at e
        · exact hn (List.mem_filter.mp q).2
        · obtain ⟨_, _, _, e, _⟩ := fN_3 q; simp at e
  · rw [z2_of (fun c hc => (plain_mem h).mp hc) hxy hm]
    unfold rsF
    rw [if_neg]
    · exact cg.refl _
    · intro q
      rcases fN_mem.mp q with q | q | q
      · obtain ⟨_, e, _⟩ := fN_1 q; simp at e
      · exact hm (List.mem_filter.mp q).1
      · obtain ⟨_, _, _, e, _⟩ := fN_3 q; simp at e
theorem rs3 {s : List Nat} (h : RowL s) {x y z : Nat} (hxy : x < y) (hyz : y < z) : cg (rsF s [x, y, z]) (G3 x y z (plainL s)) := by
  by_cases hm : [x, y, z] ∈ names3 (lettersL s)
  · by_cases hn : nz (g3 (plainL s)) [x, y, z] = true
    · unfold rsF
      rw [if_pos (fN_mem.mpr (.inr (.inr (List.mem_filter.mpr ⟨hm, hn⟩))))]
      exact cg_mod _
    · unfold rsF
      rw [if_neg]
      · exact (cg_of (by have : ((n3 x y z (plainL s) : Nat) - (n3 y x z (plainL s) : Nat) : Int) % 3 = 0 := nz_false (f := g3 (plainL s)) (s := [x, y, z]) (by simpa using hn); unfold G3; omega)).symm
      · intro q
        rcases fN_mem.mp q with q | q | q
        · obtain ⟨_, e, _⟩ := fN_1 q; simp at e
        · obtain ⟨_, _, e, _⟩ := fN_2 q; simp at e
        · exact hn (List.mem_filter.mp q).2
  · unfold G3
    rw [z3_of (fun c hc => (plain_mem h).mp hc) hxy hyz hm]
    unfold rsF
    rw [if_neg]
    · exact cg.refl _
    · intro q
      rcases fN_mem.mp q with q | q | q
      · obtain ⟨_, e, _⟩ := fN_1 q; simp at e
      · obtain ⟨_, _, e, _⟩ := fN_2 q; simp at e
      · exact hm (List.mem_filter.mp q).1
/-! what the code adds up -/
def gapF (s : List Nat) (x y : Nat) : Int := 2 * rsF s [x, y] - rsF s [x] * rsF s [y]
def pF1 (s t : List Nat) : List Nat → Int := fun n => rsF s n + rsF t n
def pF2 (s t : List Nat) : List Nat → Int
  | [x, y] => rsF s [x, y] + rsF t [x, y] + rsF s [x] * rsF t [y]
  | _ => 0
def pF3 (s t : List Nat) : List Nat → Int
  | [x, y, z] => rsF s [x, y, z] + rsF t [x, y, z] + (gapF s x y * rsF t [z] + rsF s [x] * rsF t [y, z] - rsF s [y] * rsF t [x, z])
  | _ => 0
theorem gap_cg {s : List Nat} (h : RowL s) {x y : Nat} (hxy : x < y) : cg (gapF s x y) ((n2 x y (plainL s) : Nat) - (n2 y x (plainL s) : Nat) : Int) := by
  have e : ((n2 x y (plainL s) : Nat) - (n2 y x (plainL s) : Nat) : Int) = 2 * (n2 x y (plainL s) : Nat) - (n1 x (plainL s) : Nat) * (n1 y (plainL s) : Nat) := by
    have := n2_sum (x := x) (y := y) (by omega) (plainL s)
    have h2 : ((n2 x y (plainL s) + n2 y x (plainL s) : Nat) : Int) = ((n1 x (plainL s) * n1 y (plainL s) : Nat) : Int) := by rw [this]
    rw [Int.natCast_add, Int.natCast_mul] at h2
    omega
  rw [e]
  unfold gapF
  exact cg.sub (cg.mul (cg.refl 2) (rs2 h hxy)) (cg.mul (rs1 h x) (rs1 h y))
theorem p1_cg {s t : List Nat} (hs : RowL s) (ht : RowL t) (x : Nat) : cg (pF1 s t [x]) (n1 x (plainL (s ++ t)) : Nat) := by
  rw [plainL_app, n1_app, Int.natCast_add]
  exact cg.add (rs1 hs x) (rs1 ht x)
theorem p2_cg {s t : List Nat} (hs : RowL s) (ht : RowL t) {x y : Nat} (hxy : x < y) : cg (pF2 s t [x, y]) (n2 x y (plainL (s ++ t)) : Nat) := by
  rw [plainL_app, n2_app, Int.natCast_add, Int.natCast_add, Int.natCast_mul]
  exact cg.add (cg.add (rs2 hs hxy) (rs2 ht hxy)) (cg.mul (rs1 hs x) (rs1 ht y))
theorem p3_cg {s t : List Nat} (hs : RowL s) (ht : RowL t) {x y z : Nat} (hxy : x < y) (hyz : y < z) : cg (pF3 s t [x, y, z]) (G3 x y z (plainL (s ++ t))) := by
  rw [plainL_app, G3_app]
  have e : ∀ A B C D E : Int, A + B + (C + D - E) = A + B + C + (D - E) := fun A B C D E => by omega
  show cg (rsF s [x, y, z] + rsF t [x, y, z] + (gapF s x y * rsF t [z] + rsF s [x] * rsF t [y, z] - rsF s [y] * rsF t [x, z])) _
  rw [e]
  exact cg.add (cg.add (cg.add (rs3 hs hxy hyz) (rs3 ht hxy hyz)) (cg.mul (gap_cg hs hxy) (rs1 ht z))) (cg.sub (cg.mul (rs1 hs x) (rs2 ht hyz)) (cg.mul (rs1 hs y) (rs2 ht (by omega))))
/-- the letters of both -/
def LB (s t : List Nat) : List Nat := srtD (LS s ++ LS t)
theorem LB_mem {s t : List Nat} {c : Nat} : c ∈ LB s t ↔ c ∈ LS s ∨ c ∈ LS t := by
  unfold LB
  rw [srtD_mem, List.mem_append]
theorem letters_app {s t : List Nat} {c : Nat} : c ∈ lettersL (s ++ t) ↔ c ∈ lettersL s ∨ c ∈ lettersL t := by
  unfold lettersL
  rw [srtD_mem, srtD_mem, srtD_mem, List.map_append, List.mem_append]
theorem LB_sub {s t : List Nat} {c : Nat} (h : c ∈ LB s t) : c ∈ lettersL (s ++ t) := by
  rw [letters_app]
  exact (LB_mem.mp h).imp LS_sub LS_sub
theorem LB_asc (s t : List Nat) : (LB s t).Pairwise (· < ·) := srtD_pw _
theorem prod_form {s t : List Nat} (hs : RowL s) (ht : RowL t) : D.tup [partD (pF1 s t) (names1 (LB s t)), partD (pF2 s t) (names2 (LB s t)), partD (pF3 s t) (names3 (LB s t))] = formD (s ++ t) := by
  have ha := LB_asc s t
  have hb := letters_asc (s ++ t)
  have out : ∀ {c : Nat}, ¬ c ∈ LB s t → ¬ c ∈ LS s ∧ ¬ c ∈ LS t := fun {c} h => ⟨fun q => h (LB_mem.mpr (.inl q)), fun q => h (LB_mem.mpr (.inr q))⟩
  have a1 : partD (pF1 s t) (names1 (LB s t)) = partD (g1 (plainL (s ++ t))) (names1 (lettersL (s ++ t))) := by
    refine part_eq (names1_asc ha) (names1_asc hb) (fun n hn => ?_) (fun n hn hm => ?_) fun n hn hm => ?_
    · obtain ⟨x, rfl, hx⟩ := names1_mem.mp hn
      exact p1_cg hs ht x
    · obtain ⟨x, rfl, hx⟩ := names1_mem.mp hn
      exact absurd (names1_mem.mpr ⟨x, rfl, LB_sub hx⟩) hm
    · obtain ⟨x, rfl, hx⟩ := names1_mem.mp hn
      have hx' := out fun q => hm (names1_mem.mpr ⟨x, rfl, q⟩)
      refine .inr ⟨p1_cg hs ht x, ?_⟩
      unfold pF1
      rw [rsF_out hx'.1 (by simp), rsF_out hx'.2 (by simp)]
      rfl
  have a2 : partD (pF2 s t) (names2 (LB s t)) = partD (g2 (plainL (s ++ t))) (names2 (lettersL (s ++ t))) := by
    refine part_eq (names2_asc ha) (names2_asc hb) (fun n hn => ?_) (fun n hn hm => ?_) fun n hn hm => ?_
    · obtain ⟨x, y, rfl, hx, hy, hxy⟩ := names2_mem.mp hn
      exact p2_cg hs ht hxy
    · obtain ⟨x, y, rfl, hx, hy, hxy⟩ := names2_mem.mp hn
      exact absurd (names2_mem.mpr ⟨x, y, rfl, LB_sub hx, LB_sub hy, hxy⟩) hm
    · obtain ⟨x, y, rfl, hx, hy, hxy⟩ := names2_mem.mp hn
      refine .inr ⟨p2_cg hs ht hxy, ?_⟩
      have hh : ¬ x ∈ LB s t ∨ ¬ y ∈ LB s t := by
        by_cases q : x ∈ LB s t
        · exact .inr fun q' => hm (names2_mem.mpr ⟨x, y, rfl, q, q', hxy⟩)
        · exact .inl q
      unfold pF2
      dsimp only
      rcases hh with q | q
      · rw [rsF_out (s := s) (n := [x, y]) (out q).1 (by simp), rsF_out (s := t) (n := [x, y]) (out q).2 (by simp), rsF_out (s := s) (n := [x]) (out q).1 (by simp)]; simp
      · rw [rsF_out (s := s) (n := [x, y]) (out q).1 (by simp), rsF_out (s := t) (n := [x, y]) (out q).2 (by simp), rsF_out (s := t) (n := [y]) (out q).2 (by simp)]; simp
  have a3 : partD (pF3 s t) (names3 (LB s t)) = partD (g3 (plainL (s ++ t))) (names3 (lettersL (s ++ t))) := by
    refine part_eq (names3_asc ha) (names3_asc hb) (fun n hn => ?_) (fun n hn hm => ?_) fun n hn hm => ?_
    · obtain ⟨x, y, z, rfl, hx, hy, hz, hxy, hyz⟩ := names3_mem.mp hn
      exact p3_cg hs ht hxy hyz
    · obtain ⟨x, y, z, rfl, hx, hy, hz, hxy, hyz⟩ := names3_mem.mp hn
      exact absurd (names3_mem.mpr ⟨x, y, z, rfl, LB_sub hx, LB_sub hy, LB_sub hz, hxy, hyz⟩) hm
    · obtain ⟨x, y, z, rfl, hx, hy, hz, hxy, hyz⟩ := names3_mem.mp hn
      refine .inr ⟨p3_cg hs ht hxy hyz, ?_⟩
      have hh : ¬ x ∈ LB s t ∨ ¬ y ∈ LB s t ∨ ¬ z ∈ LB s t := by
        by_cases q : x ∈ LB s t
        · by_cases q' : y ∈ LB s t
          · exact .inr (.inr fun q'' => hm (names3_mem.mpr ⟨x, y, z, rfl, q, q', q'', hxy, hyz⟩))
          · exact .inr (.inl q')
        · exact .inl q
      unfold pF3 gapF
      dsimp only
      rcases hh with q | q | q
      · have o := out q
        rw [rsF_out (s := s) (n := [x, y, z]) o.1 (by simp), rsF_out (s := t) (n := [x, y, z]) o.2 (by simp), rsF_out (s := s) (n := [x, y]) o.1 (by simp), rsF_out (s := s) (n := [x]) o.1 (by simp), rsF_out (s := t) (n := [x, z]) o.2 (by simp)]; simp
      · have o := out q
        rw [rsF_out (s := s) (n := [x, y, z]) o.1 (by simp), rsF_out (s := t) (n := [x, y, z]) o.2 (by simp), rsF_out (s := s) (n := [x, y]) o.1 (by simp), rsF_out (s := s) (n := [y]) o.1 (by simp), rsF_out (s := t) (n := [y, z]) o.2 (by simp)]; simp
      · have o := out q
        rw [rsF_out (s := s) (n := [x, y, z]) o.1 (by simp), rsF_out (s := t) (n := [x, y, z]) o.2 (by simp), rsF_out (s := t) (n := [z]) o.2 (by simp), rsF_out (s := t) (n := [y, z]) o.2 (by simp), rsF_out (s := t) (n := [x, z]) o.2 (by simp)]; simp
  unfold formD formP
  rw [a1, a2, a3]
end Thr
namespace Thr
open PySem PySem.Spec PyProof.Rows L2 RZ Sh

/-! ### loops of comprehensions with an invariant -/
section
variable {α : Type} {vs vs1 : List Nat} {mt mt1 : D → M Fl} {tt tt1 : M Bool} {mi1 : M (List D)} {S : Store}
theorem lcL_inv {te : M D} (g : α → D) (p : α → Bool) (f : α → D) (I : Env → Prop) : ∀ (xs : List α) (ρ : Env), I ρ →
    (∀ x, x ∈ xs → ∀ ρ0, I ρ0 → ∃ ρ1 ρ2, mt (g x) (wipeE ρ0 vs) S = .ok .nx ρ1 S ∧ tt ρ1 S = .ok (p x) ρ2 S ∧ (p x = false → I ρ2) ∧ (p x = true → ∃ ρ3, te ρ2 S = .ok (f x) ρ3 S ∧ I ρ3)) →
    ∃ ρ', lcL vs mt tt te (xs.map g) ρ S = .ok ((xs.filter p).map f) ρ' S ∧ I ρ'
  | [], ρ, i, _ => ⟨ρ, rfl, i⟩
  | x :: xs, ρ, i, h => by
    obtain ⟨ρ1, ρ2, e1, e2, e3, e4⟩ := h x (List.mem_cons_self ..) ρ i
    rw [List.map_cons]
    unfold lcL
    rw [e1]
    dsimp only
    rw [e2]
    cases q : p x with
    | true =>
      obtain ⟨ρ3, e5, e6⟩ := e4 q
      obtain ⟨ρ', e7, e8⟩ := lcL_inv g p f I xs ρ3 e6 fun y hy => h y (List.mem_cons_of_mem _ hy)
      refine ⟨ρ', ?_, e8⟩
      dsimp only
      rw [e5]
      dsimp only
      rw [e7, List.filter_cons_of_pos q]
      rfl
    | false =>
      obtain ⟨ρ', e7, e8⟩ := lcL_inv g p f I xs ρ2 (e3 q) fun y hy => h y (List.mem_cons_of_mem _ hy)
      refine ⟨ρ', ?_, e8⟩
      dsimp only
      rw [e7, List.filter_cons_of_neg (by rw [q]; exact Bool.false_ne_true)]
theorem dcL_map {te : M (D × D)} (g : α → D) (f : α → D × D) (I : Env → Prop) : ∀ (xs : List α) (ρ : Env), I ρ →
    (∀ x, x ∈ xs → ∀ ρ0, I ρ0 → ∃ ρ1 ρ2 ρ3, mt (g x) (wipeE ρ0 vs) S = .ok .nx ρ1 S ∧ tt ρ1 S = .ok true ρ2 S ∧ te ρ2 S = .ok (f x) ρ3 S ∧ I ρ3) →
    ∃ ρ', dcL vs mt tt te (xs.map g) ρ S = .ok (xs.map f) ρ' S ∧ I ρ'
  | [], ρ, i, _ => ⟨ρ, rfl, i⟩
  | x :: xs, ρ, i, h => by
    obtain ⟨ρ1, ρ2, ρ3, e1, e2, e3, e4⟩ := h x (List.mem_cons_self ..) ρ i
    obtain ⟨ρ', e7, e8⟩ := dcL_map g f I xs ρ3 e4 fun y hy => h y (List.mem_cons_of_mem _ hy)
    refine ⟨ρ', ?_, e8⟩
    rw [List.map_cons]
    unfold dcL
    rw [e1]
    dsimp only
    rw [e2]
    dsimp only
    rw [e3]
    dsimp only
    rw [e7]
    rfl
theorem lc2L_inv {te : M D} (g : α → D) (f : α → List D) (I : Env → Prop) : ∀ (xs : List α) (ρ : Env), I ρ →
    (∀ x, x ∈ xs → ∀ ρ0, I ρ0 → ∃ ρ1 ρ2 ρ3 ρ4 ds1, mt (g x) (wipeE ρ0 vs) S = .ok .nx ρ1 S ∧ tt ρ1 S = .ok true ρ2 S ∧ mi1 ρ2 S = .ok ds1 ρ3 S ∧ lcL vs1 mt1 tt1 te ds1 ρ3 S = .ok (f x) ρ4 S ∧ I ρ4) →
    ∃ ρ', lc2L vs mt tt mi1 vs1 mt1 tt1 te (xs.map g) ρ S = .ok (xs.flatMap f) ρ' S ∧ I ρ'
  | [], ρ, i, _ => ⟨ρ, rfl, i⟩
  | x :: xs, ρ, i, h => by
    obtain ⟨ρ1, ρ2, ρ3, ρ4, ds1, e1, e2, e3, e4, e5⟩ := h x (List.mem_cons_self ..) ρ i
    obtain ⟨ρ', e7, e8⟩ := lc2L_inv g f I xs ρ4 e5 fun y hy => h y (List.mem_cons_of_mem _ hy)
    refine ⟨ρ', ?_, e8⟩
    rw [List.map_cons]
    unfold lc2L
    rw [e1]
    dsimp only
    rw [e2]
    dsimp only
    rw [e3]
    dsimp only
    rw [e4]
    dsimp only
    rw [e7]
    rfl
theorem dc2L_inv {te : M (D × D)} (g : α → D) (f : α → List (D × D)) (I : Env → Prop) : ∀ (xs : List α) (ρ : Env), I ρ →
    (∀ x, x ∈ xs → ∀ ρ0, I ρ0 → ∃ ρ1 ρ2 ρ3 ρ4 ds1, mt (g x) (wipeE ρ0 vs) S = .ok .nx ρ1 S ∧ tt ρ1 S = .ok true ρ2 S ∧ mi1 ρ2 S = .ok ds1 ρ3 S ∧ dcL vs1 mt1 tt1 te ds1 ρ3 S = .ok (f x) ρ4 S ∧ I ρ4) →
    ∃ ρ', dc2L vs mt tt mi1 vs1 mt1 tt1 te (xs.map g) ρ S = .ok (xs.flatMap f) ρ' S ∧ I ρ'
  | [], ρ, i, _ => ⟨ρ, rfl, i⟩
  | x :: xs, ρ, i, h => by
    obtain ⟨ρ1, ρ2, ρ3, ρ4, ds1, e1, e2, e3, e4, e5⟩ := h x (List.mem_cons_self ..) ρ i
    obtain ⟨ρ', e7, e8⟩ := dc2L_inv g f I xs ρ4 e5 fun y hy => h y (List.mem_cons_of_mem _ hy)
    refine ⟨ρ', ?_, e8⟩
    rw [List.map_cons]
    unfold dc2L
    rw [e1]
    dsimp only
    rw [e2]
    dsimp only
    rw [e3]
    dsimp only
    rw [e4]
    dsimp only
    rw [e7]
    rfl
end
/-! ### forms of tuples or of lists -/
def sqK : Bool → List D → D
  | true, ds => .tup ds
  | false, ds => .lst ds
def itK (b : Bool) (s n : List Nat) : D := sqK b [.str n, .int (gM s n)]
def formK (b : Bool) (s : List Nat) : D := sqK b [sqK b ((fN1 s).map (itK b s)), sqK b ((fN2 s).map (itK b s)), sqK b ((fN3 s).map (itK b s))]
theorem formK_true (s : List Nat) : formK true s = formD s := by
  unfold formK formD formP sqK partD
  have e1 : (fN1 s).map (itK true s) = (fN1 s).map (reD (g1 (plainL s))) := List.map_congr_left fun n hn => by
    obtain ⟨x, rfl, _⟩ := fN_1 hn
    rfl
  have e2 : (fN2 s).map (itK true s) = (fN2 s).map (reD (g2 (plainL s))) := List.map_congr_left fun n hn => by
    obtain ⟨x, y, rfl, _⟩ := fN_2 hn
    rfl
  have e3 : (fN3 s).map (itK true s) = (fN3 s).map (reD (g3 (plainL s))) := List.map_congr_left fun n hn => by
    obtain ⟨x, y, z, rfl, _⟩ := fN_3 hn
    rfl
  rw [e1, e2, e3]
  rfl
theorem sqK_it (b : Bool) (ds : List D) : lstOr (sqK b ds) = some ds := by cases b <;> rfl
def dictP (h : List Nat → Int) (n : List Nat) : D × D := (.str n, .int (h n))
theorem dictOf_names {h : List Nat → Int} : ∀ {K : List (List Nat)}, K.Nodup → dictOf (K.map (dictP h)) = (kD K, vD K h) := by
  have gen : ∀ (K0 K : List (List Nat)), (K0 ++ K).Nodup → (K.map (dictP h)).foldl (fun p kv => putKs p.1 p.2 kv.1 kv.2) (kD K0, vD K0 h) = (kD (K0 ++ K), vD (K0 ++ K) h) := by
    intro K0 K
    induction K generalizing K0 with
    | nil => intro _; rw [List.append_nil]; rfl
    | cons n K ih =>
      intro nd
      have hn : ¬ n ∈ K0 := fun q => (List.nodup_append.mp nd).2.2 n q n (List.mem_cons_self ..) rfl
      rw [List.map_cons, List.foldl_cons]
      have e : putKs (kD K0) (vD K0 h) (.str n) (.int (h n)) = (kD (K0 ++ [n]), vD (K0 ++ [n]) h) := by
        rw [putKs_td]
        have e1 : addK K0 n = K0 ++ [n] := by unfold addK; rw [if_neg hn]
        have e2 : updF h n (h n) = h := by
          funext t
          unfold updF
          split
          · rename_i q; rw [q]
          · rfl
        rw [e1, e2]
      show (K.map (dictP h)).foldl _ (putKs (kD K0) (vD K0 h) (.str n) (.int (h n))) = _
      rw [e, ih (K0 ++ [n]) (by rw [List.append_assoc]; exact nd), List.append_assoc]
      rfl
  intro K nd
  exact gen [] K (by simpa using nd)
theorem fN_len {s : List Nat} (h : RowL s) : (fN s).length ≤ 584 := by
  have h8 := letters_len h
  have l2 := names2_len h8
  have l3 := names3_len h8
  have f1 := List.length_filter_le (nz (g1 (plainL s))) (names1 (lettersL s))
  have f2 := List.length_filter_le (nz (g2 (plainL s))) (names2 (lettersL s))
  have f3 := List.length_filter_le (nz (g3 (plainL s))) (names3 (lettersL s))
  have l1 : (names1 (lettersL s)).length ≤ 8 := by unfold names1; rw [List.length_map]; exact h8
  unfold fN fN1 fN2 fN3
  rw [List.length_append, List.length_append]
  omega
theorem tgE_it {b : Bool} {s n : List Nat} {i j : Nat} {ρ : Env} {S : Store} : tgE [i, j] (itK b s n) ρ S = tgNs [i, j] [.str n, .int (gM s n)] ρ S := by
  cases b <;> rfl
abbrev dcD (K : List (List Nat)) (f : List Nat → Int) : D := .dic (kD K) (vD K f)
theorem rests_spec {b : Bool} {s : List Nat} {S : Store} (h : RowL s) : m_rests_of [formK b s] S = .ok (.owd (kD (fN s)) (vD (fN s) (gM s))) S := by
  have hi : mItA (mVar 0) [.val (formK b s), .un, .un, .un] S = .ok ([fN1 s, fN2 s, fN3 s].map fun ns => sqK b (ns.map (itK b s))) [.val (formK b s), .un, .un, .un] S :=
    itA_ok (var_ok rfl) (sqK_it b _)
  obtain ⟨ρ', e, i⟩ := dc2L_inv (vs := [1, 2, 3]) (vs1 := [2, 3]) (mt := tgN 1) (mt1 := tgE [2, 3]) (tt := mYes) (tt1 := mYes) (mi1 := mItA (mVar 1)) (te := mPr (mVar 2) (mVar 3)) (S := S) (fun ns => sqK b (ns.map (itK b s))) (fun ns => ns.map (dictP (gM s))) (fun ρ => wipeE ρ [1, 2, 3] = [.val (formK b s), .un, .un, .un])
    [fN1 s, fN2 s, fN3 s] [.val (formK b s), .un, .un, .un] rfl fun ns hns ρ0 i0 => by
      rw [i0]
      obtain ⟨ρ4, e4, i4⟩ := dcL_map (vs := [2, 3]) (mt := tgE [2, 3]) (tt := mYes) (te := mPr (mVar 2) (mVar 3)) (S := S) (itK b s) (dictP (gM s)) (fun ρ => wipeE ρ [2, 3] = [.val (formK b s), .val (sqK b (ns.map (itK b s))), .un, .un]) ns [.val (formK b s), .val (sqK b (ns.map (itK b s))), .un, .un] rfl fun n hn ρ1 i1 => by
        rw [i1]
        exact ⟨[.val (formK b s), .val (sqK b (ns.map (itK b s))), .val (.str n), .val (.int (gM s n))], _, _, by rw [tgE_it]; rfl, rfl, rfl, rfl⟩
      refine ⟨[.val (formK b s), .val (sqK b (ns.map (itK b s))), .un, .un], _, _, ρ4, ns.map (itK b s), rfl, rfl, itA_ok (var_ok rfl) (sqK_it b _), e4, ?_⟩
      have : wipeE ρ4 [1, 2, 3] = wipeE (wipeE ρ4 [2, 3]) [1] := by
        match ρ4 with
        | [] => rfl
        | [a] => rfl
        | [a, b] => rfl
        | [a, b, c] => rfl
        | a :: b :: c :: d :: r => rfl
      rw [this, i4]
      rfl
  have ef : ([fN1 s, fN2 s, fN3 s].flatMap fun ns => ns.map (dictP (gM s))) = (fN s).map (dictP (gM s)) := by
    unfold fN
    simp
  rw [ef] at e
  unfold m_rests_of mDef e_rests_of
  have e2 : mDC2 [1, 2, 3] (mItA (mVar 0)) (tgN 1) mYes (mItA (mVar 1)) [2, 3] (tgE [2, 3]) mYes (mPr (mVar 2) (mVar 3)) [.val (formK b s), .un, .un, .un] S = .ok (.owd (kD (fN s)) (vD (fN s) (gM s))) [.val (formK b s), .un, .un, .un] S := by
    unfold mDC2
    rw [b_ok hi, e]
    dsimp only
    rw [if_pos (by rw [List.length_map]; have := fN_len h; omega), dictOf_names (fN_nd s), i]
    rfl
  simp [ret_ok e2, RV.out]
theorem rest_in_spec {K : List (List Nat)} {f : List Nat → Int} {n : List Nat} {S : Store} : m_rest_in [dcD K f, .str n] S = .ok (.val (.int (if n ∈ K then f n else 0))) S := by
  have e : mGet2 (mPk 0) (mVar 1) (mC (.int 0)) [.val (dcD K f), .val (.str n)] S = .ok (.int (if n ∈ K then f n else 0)) [.val (dcD K f), .val (.str n)] S := by
    have e1 : Pk.get (.slot 0) [.val (dcD K f), .val (.str n)] S = some (dcD K f) := rfl
    unfold mGet2 M.look
    rw [b_ok (pk_ok (d := dcD K f) (sl := .val (dcD K f)) rfl rfl)]
    try dsimp only
    rw [e1]
    try dsimp only
    rw [if_pos (show isDic (dcD K f) = true from rfl), b_ok (var_ok (d := .str n) rfl), b_ok c_ok]
    try dsimp only
    rw [e1]
    try dsimp only
    unfold dGetOr
    try dsimp only
    rw [if_pos (show (keyD (.str n)).isSome = true from rfl), getK_td]
    by_cases hs : n ∈ K
    · rw [if_pos hs, if_pos hs]; rfl
    · rw [if_neg hs, if_neg hs]; rfl
  unfold m_rest_in mDef e_rest_in
  have e2 := ret_ok (vl_ok e)
  simp [e2, RV.out]
end Thr
namespace Thr
open PySem PySem.Spec PyProof.Rows L2 RZ Sh

/-! ### letters_in, names_for, gap -/
section
variable {ρ ρ1 ρ2 ρ3 : Env} {S S1 S2 : Store}
theorem sum_names {k : Nat} : ∀ {K : List (List Nat)}, (∀ n, n ∈ K → n.length ≤ k) → (K.map List.length).sum ≤ k * K.length
  | [], _ => by simp
  | n :: K, h => by
    have h1 := h n (List.mem_cons_self ..)
    have h2 := sum_names (K := K) fun m hm => h m (List.mem_cons_of_mem _ hm)
    rw [List.map_cons, List.sum_cons, List.length_cons, Nat.mul_add]
    omega
theorem join_names {m : M D} {K : List (List Nat)} (h : m ρ S = .ok (.lst (K.map D.str)) ρ1 S1) (hl : (K.map List.length).sum ≤ 16777216) : mM1 dJoin (mK (mC (.str []))) (mK m) ρ S = .ok (.str K.flatten) ρ1 S1 := by
  have e : dJoin (.str []) (.lst (K.map D.str)) = some (.str K.flatten) := by
    unfold dJoin
    dsimp only [sqOf]
    have := strsD_map (fun x => x) K
    rw [List.map_id'] at this
    rw [this]
    dsimp only
    rw [if_pos (by simp only [List.length_nil, Nat.mul_zero]; omega), joinL_nil]
  unfold mM1
  rw [b_ok (mk_ok c_ok)]
  unfold M.look
  simp only [Pk.get, view]
  rw [b_ok (mk_ok h)]
  simp only [Pk.get, view, e, M.opt]
theorem sset_ok {m : M D} {s : List Nat} (h : m ρ S = .ok (.str s) ρ1 S1) (ha : ∀ c, c ∈ s → c < 128) (hl : s.length < 4000) : M.frz (mSSet m) ρ S = .ok (.lst ((srtD s).map chD)) ρ1 S1 := by
  refine frz_ok (r := .own ((srtD s).map chD)) ?_
  unfold mSSet
  rw [b_ok h]
  unfold dSSet M.opt
  dsimp only
  rw [if_pos]
  rw [Bool.and_eq_true, List.all_eq_true]
  exact ⟨fun c hc => decide_eq_true (ha c hc), decide_eq_true hl⟩
theorem ixK {b : Bool} {s n : List Nat} : dIx (itK b s n) (.int 0) = some (.str n) := by cases b <;> simp [itK, sqK, dIx, atD, atI, seqIndex?]
theorem lets_small {c : Nat} (h : c ∈ lets) : c < 128 := by have := lets_mem.mp h; omega
theorem letters_small {s : List Nat} (h : RowL s) {c : Nat} (hc : c ∈ lettersL s) : c < 128 := lets_small (letters_lets h hc)
theorem letters_in_spec {b : Bool} {s : List Nat} (h : RowL s) : m_letters_in [formK b s] S = .ok (.val (.str (LS s))) S := by
  have hi : mItA (mVar 0) [.val (formK b s), .un, .un] S = .ok ([fN1 s, fN2 s, fN3 s].map fun ns => sqK b (ns.map (itK b s))) [.val (formK b s), .un, .un] S :=
    itA_ok (var_ok rfl) (sqK_it b _)
  obtain ⟨ρ', e, i⟩ := lc2L_inv (vs := [1, 2]) (vs1 := [2]) (mt := tgN 1) (mt1 := tgN 2) (tt := mYes) (tt1 := mYes) (mi1 := mItA (mVar 1)) (te := p_letters_in_1) (S := S) (fun ns => sqK b (ns.map (itK b s))) (fun ns => ns.map D.str) (fun ρ => wipeE ρ [1, 2] = [.val (formK b s), .un, .un])
    [fN1 s, fN2 s, fN3 s] [.val (formK b s), .un, .un] rfl fun ns hns ρ0 i0 => by
      rw [i0]
      obtain ⟨ρ4, e4, i4⟩ := lcL_inv (vs := [2]) (mt := tgN 2) (tt := mYes) (te := p_letters_in_1) (S := S) (itK b s) (fun _ => true) D.str (fun ρ => wipeE ρ [2] = [.val (formK b s), .val (sqK b (ns.map (itK b s))), .un]) ns [.val (formK b s), .val (sqK b (ns.map (itK b s))), .un] rfl fun n hn ρ1 i1 => by
        rw [i1]
        refine ⟨[.val (formK b s), .val (sqK b (ns.map (itK b s))), .val (itK b s n)], _, rfl, rfl, fun z => (by cases z), fun _ => ⟨[.val (formK b s), .val (sqK b (ns.map (itK b s))), .val (itK b s n)], ?_, rfl⟩⟩
        have hv : Sl.view S (.val (itK b s n)) = some (itK b s n) := by cases b <;> rfl
        exact opV_ok (x := itK b s n) (y := .int 0) (pk_ok (sl := .val (itK b s n)) rfl hv) (mk_ok c_ok) (pg_ok (sl := .val (itK b s n)) rfl hv) rfl ixK
      rw [List.filter_eq_self.mpr fun _ _ => rfl] at e4
      refine ⟨[.val (formK b s), .val (sqK b (ns.map (itK b s))), .un], _, _, ρ4, ns.map (itK b s), rfl, rfl, itA_ok (var_ok rfl) (sqK_it b _), e4, ?_⟩
      have : wipeE ρ4 [1, 2] = wipeE (wipeE ρ4 [2]) [1] := by
        match ρ4 with
        | [] => rfl
        | [a] => rfl
        | [a, b] => rfl
        | a :: b :: c :: r => rfl
      rw [this, i4]
      rfl
  have ef : ([fN1 s, fN2 s, fN3 s].flatMap fun ns => ns.map D.str) = (fN s).map D.str := by
    unfold fN
    simp
  rw [ef] at e
  have e2 : mLC2 [1, 2] (mItA (mVar 0)) (tgN 1) mYes (mItA (mVar 1)) [2] (tgN 2) mYes p_letters_in_1 [.val (formK b s), .un, .un] S = .ok (.own ((fN s).map D.str)) [.val (formK b s), .un, .un] S := by
    unfold mLC2
    rw [b_ok hi, e]
    dsimp only
    rw [if_pos (by rw [List.length_map]; have := fN_len h; omega), i]
    rfl
  have hl := fN_len h
  have hs := sum_names (K := fN s) (k := 3) fun n hn => (fN_let hn).1
  have e3 := join_names (frz_ok e2) (by omega)
  have e4 := sset_ok e3 (fun c hc => by
    obtain ⟨n, hn, hcn⟩ := List.mem_flatten.mp hc
    exact letters_small h ((fN_let hn).2 c hcn)) (by rw [List.length_flatten]; omega)
  have hll : (srtD (fN s).flatten).length ≤ (fN s).flatten.length := srtD_len _
  have e5 := join_lets e4 (by rw [List.length_flatten] at hll; omega)
  unfold m_letters_in mDef e_letters_in
  have e6 := ret_ok (vl_ok e5)
  simp [e6, RV.out, LS]
theorem flat_if {α β : Type} {p : α → Bool} {f : α → List β} : ∀ l : List α, (l.filter p).flatMap f = l.flatMap fun y => if p y = true then f y else []
  | [] => rfl
  | x :: l => by
    have ih := flat_if (p := p) (f := f) l
    by_cases h : p x = true
    · rw [List.filter_cons_of_pos h, List.flatMap_cons, List.flatMap_cons, ih, if_pos h]
    · rw [List.filter_cons_of_neg h, List.flatMap_cons, ih, if_neg h]; rfl
theorem names3_twos (L : List Nat) : (names2 L).flatMap (fun n => (L.filter fun z => decide (n.getD 1 0 < z)).map fun z => D.str (n ++ [z])) = (names3 L).map D.str := by
  unfold names2 names3
  rw [List.flatMap_assoc, List.map_flatMap]
  congr 1
  funext x
  rw [List.flatMap_map, flat_if, List.map_flatMap]
  congr 1
  funext y
  by_cases h : x < y
  · rw [if_pos (decide_eq_true h), List.map_map]
    simp [h]
  · rw [if_neg (by simpa using h)]
    simp [h]
theorem names_for_spec {L : List Nat} (h8 : L.length ≤ 8) : m_names_for [.str L] S = .ok (.own [.lst (L.map chD), .lst ((names2 L).map D.str), .lst ((names3 L).map D.str)]) S := by
  have l2 := names2_len h8
  have l3 := names3_len h8
  have a1 : mLC2 [2, 3] (mItA (mVar 0)) (tgN 2) mYes (mItA (mVar 0)) [3] (tgN 3) (mCmp dLt (mPk 2) (mPk 3)) p_names_for_1 [.val (.str L), .un, .un, .un, .un] S = .ok (.own ((names2 L).map D.str)) [.val (.str L), .un, .un, .un, .un] S := by
    obtain ⟨ρ', e, i⟩ := lc2L_inv (vs := [2, 3]) (vs1 := [3]) (mt := tgN 2) (mt1 := tgN 3) (tt := mYes) (tt1 := mCmp dLt (mPk 2) (mPk 3)) (mi1 := mItA (mVar 0)) (te := p_names_for_1) (S := S) chD (fun x => (L.filter fun y => decide (x < y)).map fun y => D.str [x, y]) (fun ρ => wipeE ρ [2, 3] = [.val (.str L), .un, .un, .un, .un])
      L [.val (.str L), .un, .un, .un, .un] rfl fun x hx ρ0 i0 => by
        rw [i0]
        obtain ⟨ρ4, e4, i4⟩ := lcL_inv (vs := [3]) (mt := tgN 3) (tt := mCmp dLt (mPk 2) (mPk 3)) (te := p_names_for_1) (S := S) chD (fun y => decide (x < y)) (fun y => D.str [x, y]) (fun ρ => wipeE ρ [3] = [.val (.str L), .un, .val (.str [x]), .un, .un]) L [.val (.str L), .un, .val (.str [x]), .un, .un] rfl fun y hy ρ1 i1 => by
          rw [i1]
          refine ⟨[.val (.str L), .un, .val (.str [x]), .val (.str [y]), .un], [.val (.str L), .un, .val (.str [x]), .val (.str [y]), .un], rfl, ?_, fun z => rfl, fun _ => ⟨[.val (.str L), .un, .val (.str [x]), .val (.str [y]), .un], ?_, rfl⟩⟩
          · exact cmp_ok (x := .str [x]) (y := .str [y]) (pk_ok rfl rfl) (pk_ok rfl rfl) (pg_ok rfl rfl) (pg_ok rfl rfl) (by show some (strLt [x] [y]) = _; rw [strLt_one])
          · exact add_ok (s := [x]) (t := [y]) rfl rfl (show 2 ≤ 16777216 by decide)
        refine ⟨[.val (.str L), .un, .val (.str [x]), .un, .un], _, _, ρ4, L.map chD, rfl, rfl, itA_ok (var_ok rfl) rfl, e4, ?_⟩
        have : wipeE ρ4 [2, 3] = wipeE (wipeE ρ4 [3]) [2] := by
          match ρ4 with
          | [] => rfl
          | [a] => rfl
          | [a, b] => rfl
          | [a, b, c] => rfl
          | a :: b :: c :: d :: r => rfl
        rw [this, i4]
        rfl
    have ef : (L.flatMap fun x => (L.filter fun y => decide (x < y)).map fun y => D.str [x, y]) = (names2 L).map D.str := by
      unfold names2
      rw [List.map_flatMap]
      congr 1
      funext x
      rw [List.map_map]
      rfl
    rw [ef] at e
    unfold mLC2
    rw [b_ok (itA_ok (ds := L.map chD) (var_ok rfl) rfl), e]
    dsimp only
    rw [if_pos (by rw [List.length_map]; omega), i]
    rfl
  have a2 : mLC2 [3, 4] (mItA (mVar 1)) (tgN 3) mYes (mItA (mVar 0)) [4] (tgN 4) p_names_for_2 p_names_for_3 [.val (.str L), .val (.lst ((names2 L).map D.str)), .un, .un, .un] S = .ok (.own ((names3 L).map D.str)) [.val (.str L), .val (.lst ((names2 L).map D.str)), .un, .un, .un] S := by
    obtain ⟨ρ', e, i⟩ := lc2L_inv (vs := [3, 4]) (vs1 := [4]) (mt := tgN 3) (mt1 := tgN 4) (tt := mYes) (tt1 := p_names_for_2) (mi1 := mItA (mVar 0)) (te := p_names_for_3) (S := S) D.str (fun n => (L.filter fun z => decide (n.getD 1 0 < z)).map fun z => D.str (n ++ [z])) (fun ρ => wipeE ρ [3, 4] = [.val (.str L), .val (.lst ((names2 L).map D.str)), .un, .un, .un])
      (names2 L) [.val (.str L), .val (.lst ((names2 L).map D.str)), .un, .un, .un] rfl fun n hn ρ0 i0 => by
        rw [i0]
        obtain ⟨x, y, rfl, _⟩ := names2_mem.mp hn
        obtain ⟨ρ4, e4, i4⟩ := lcL_inv (vs := [4]) (mt := tgN 4) (tt := p_names_for_2) (te := p_names_for_3) (S := S) chD (fun z => decide (y < z)) (fun z => D.str ([x, y] ++ [z])) (fun ρ => wipeE ρ [4] = [.val (.str L), .val (.lst ((names2 L).map D.str)), .un, .val (.str [x, y]), .un]) L [.val (.str L), .val (.lst ((names2 L).map D.str)), .un, .val (.str [x, y]), .un] rfl fun z hz ρ1 i1 => by
          rw [i1]
          refine ⟨[.val (.str L), .val (.lst ((names2 L).map D.str)), .un, .val (.str [x, y]), .val (.str [z])], [.val (.str L), .val (.lst ((names2 L).map D.str)), .un, .val (.str [x, y]), .val (.str [z])], rfl, ?_, fun z => rfl, fun _ => ⟨[.val (.str L), .val (.lst ((names2 L).map D.str)), .un, .val (.str [x, y]), .val (.str [z])], ?_, rfl⟩⟩
          · exact cmp_ok (x := .str [y]) (y := .str [z]) (mk_ok (opV_ok (x := .str [x, y]) (y := .int 1) (pk_ok rfl rfl) (mk_ok c_ok) (pg_ok rfl rfl) rfl (ix_at (p := [x, y]) (i := 1) (c := y) rfl (show 2 ≤ 16777216 by decide)))) (pk_ok rfl rfl) rfl (pg_ok rfl rfl) (by show some (strLt [y] [z]) = _; rw [strLt_one])
          · exact add_ok (s := [x, y]) (t := [z]) rfl rfl (show 3 ≤ 16777216 by decide)
        refine ⟨[.val (.str L), .val (.lst ((names2 L).map D.str)), .un, .val (.str [x, y]), .un], _, _, ρ4, L.map chD, rfl, rfl, itA_ok (var_ok rfl) rfl, e4, ?_⟩
        have : wipeE ρ4 [3, 4] = wipeE (wipeE ρ4 [4]) [3] := by
          match ρ4 with
          | [] => rfl
          | [a] => rfl
          | [a, b] => rfl
          | [a, b, c] => rfl
          | [a, b, c, d] => rfl
          | a :: b :: c :: d :: e :: r => rfl
        rw [this, i4]
        rfl
    rw [names3_twos] at e
    unfold mLC2
    rw [b_ok (itA_ok (ds := (names2 L).map D.str) (var_ok rfl) rfl), e]
    dsimp only
    rw [if_pos (by rw [List.length_map]; omega), i]
    rfl
  have b1 : sSet 1 (mLC2 [2, 3] (mItA (mVar 0)) (tgN 2) mYes (mItA (mVar 0)) [3] (tgN 3) (mCmp dLt (mPk 2) (mPk 3)) p_names_for_1) [.val (.str L), .un, .un, .un, .un] S = .ok .nx [.val (.str L), .own ((names2 L).map D.str), .un, .un, .un] S := set_ok a1 (by show 1 < 5; decide)
  have b2 : M.frz (mListS (mVar 0)) [.val (.str L), .own ((names2 L).map D.str), .un, .un, .un] S = .ok (.lst (L.map chD)) [.val (.str L), .own ((names2 L).map D.str), .un, .un, .un] S := by
    refine frz_ok (r := .own (L.map chD)) ?_
    unfold mListS
    rw [b_ok (var_ok (d := .str L) rfl)]
    unfold listS M.opt
    dsimp only
    rw [if_pos (by rw [SZ_is]; omega)]
  have b3 : mVar 1 [.val (.str L), .own ((names2 L).map D.str), .un, .un, .un] S = .ok (.lst ((names2 L).map D.str)) [.val (.str L), .val (.lst ((names2 L).map D.str)), .un, .un, .un] S := rfl
  have b4 := lst_ok (cons_ok b2 (cons_ok b3 (cons_ok (frz_ok a2) nil_ok))) (by show 3 ≤ 16777216; decide)
  exact def_rt (np := 1) (n := 5) (m := e_names_for) (ds := [.str L]) rfl ((seq_nx b1).trans (ret_ok b4))
end
end Thr
namespace Thr
open PySem PySem.Spec PyProof.Rows L2 RZ Sh

/-! ### product -/
section
variable {ρ ρ1 ρ2 ρ3 : Env} {S S1 S2 : Store}
def Dc (sl : Sl) (K : List (List Nat)) (f : List Nat → Int) : Prop := sl = .owd (kD K) (vD K f) ∨ sl = .val (dcD K f)
abbrev dV (s : List Nat) : Sl := .val (dcD (fN s) (gM s))
theorem dvar_ok {j : Nat} {sl : Sl} {K : List (List Nat)} {f : List Nat → Int} (h : ρ[j]? = some sl) (hd : Dc sl K f) : mVar j ρ S = .ok (dcD K f) (ρ.set j (.val (dcD K f))) S := by
  rcases hd with rfl | rfl
  · unfold mVar; rw [h]
  · unfold mVar; rw [h]
    dsimp only
    rw [List.set_self ρ j _ h]
theorem rin_ok {j : Nat} {sl : Sl} {s n : List Nat} {mk : M D} (h : ρ[j]? = some sl) (hd : Dc sl (fN s) (gM s)) (hk : mk (ρ.set j (dV s)) S = .ok (.str n) (ρ.set j (dV s)) S) :
    M.frz (mCall0 m_rest_in (mCons (mVar j) (mCons mk mNil))) ρ S = .ok (.int (rsF s n)) (ρ.set j (dV s)) S :=
  frz_ok (call_ok (cons_ok (dvar_ok h hd) (cons_ok hk nil_ok)) rest_in_spec)
theorem rin_v {j : Nat} {s n : List Nat} {mk : M D} (h : ρ[j]? = some (dV s)) (hk : mk ρ S = .ok (.str n) ρ S) :
    M.frz (mCall0 m_rest_in (mCons (mVar j) (mCons mk mNil))) ρ S = .ok (.int (rsF s n)) ρ S :=
  frz_ok (call_ok (cons_ok (var_ok h) (cons_ok hk nil_ok)) rest_in_spec)
theorem addI_ok {ma mb : M D} {a b : Int} (ha : ma ρ S = .ok (.int a) ρ1 S1) (hb : mb ρ1 S1 = .ok (.int b) ρ2 S2) : M.frz (mOp dAdd (mK ma) (mK mb)) ρ S = .ok (.int (a + b)) ρ2 S2 :=
  fop_ok (x := .int a) (y := .int b) (mk_ok ha) (mk_ok hb) rfl rfl rfl
theorem subI_ok {ma mb : M D} {a b : Int} (ha : ma ρ S = .ok (.int a) ρ1 S1) (hb : mb ρ1 S1 = .ok (.int b) ρ2 S2) : mOp dSub (mK ma) (mK mb) ρ S = .ok (.val (.int (a - b))) ρ2 S2 :=
  op_ok (x := .int a) (y := .int b) (mk_ok ha) (mk_ok hb) rfl rfl rfl
theorem mulI {a b : Int} (h1 : -1000 < a) (h2 : a < 1000) : dMul (.int a) (.int b) = some (.val (.int (a * b))) := by
  unfold dMul
  dsimp only
  rw [if_pos]
  unfold CMulB
  rw [Bool.or_eq_true]
  left
  rw [Bool.and_eq_true]
  exact ⟨decide_eq_true (by omega), decide_eq_true (by omega)⟩
theorem mulI_ok {ma mb : M D} {a b : Int} (ha : ma ρ S = .ok (.int a) ρ1 S1) (hb : mb ρ1 S1 = .ok (.int b) ρ2 S2) (h1 : -1000 < a) (h2 : a < 1000) : mOp dMul (mK ma) (mK mb) ρ S = .ok (.val (.int (a * b))) ρ2 S2 :=
  op_ok (x := .int a) (y := .int b) (mk_ok ha) (mk_ok hb) rfl rfl (mulI h1 h2)
theorem rsF_b (s n : List Nat) : 0 ≤ rsF s n ∧ rsF s n < 3 := by
  unfold rsF gM
  split <;> omega
theorem gapF_b (s : List Nat) (x y : Nat) : -1000 < gapF s x y ∧ gapF s x y < 1000 := by
  have h1 := rsF_b s [x, y]
  have h2 := rsF_b s [x]
  have h3 := rsF_b s [y]
  unfold gapF
  have a1 : 0 ≤ rsF s [x] * rsF s [y] := Int.mul_nonneg h2.1 h3.1
  have a2 : rsF s [x] * rsF s [y] ≤ 2 * 2 := Int.mul_le_mul (by omega) (by omega) h3.1 (by omega)
  omega
theorem gap_spec {s : List Nat} {x y : Nat} : m_gap [dcD (fN s) (gM s), .str [x], .str [y]] S = .ok (.val (.int (gapF s x y))) S := by
  have a1 : M.frz (mCall0 m_rest_in (mCons (mVar 0) (mCons (M.frz (mOp dAdd (mPk 1) (mPk 2))) mNil))) [dV s, .val (.str [x]), .val (.str [y])] S = .ok (.int (rsF s [x, y])) [dV s, .val (.str [x]), .val (.str [y])] S :=
    rin_v rfl (add_ok (s := [x]) (t := [y]) rfl rfl (show 2 ≤ 16777216 by decide))
  have a2 : M.frz (mCall0 m_rest_in (mCons (mVar 0) (mCons (mVar 1) mNil))) [dV s, .val (.str [x]), .val (.str [y])] S = .ok (.int (rsF s [x])) [dV s, .val (.str [x]), .val (.str [y])] S := rin_v rfl (var_ok rfl)
  have a3 : M.frz (mCall0 m_rest_in (mCons (mVar 0) (mCons (mVar 2) mNil))) [dV s, .val (.str [x]), .val (.str [y])] S = .ok (.int (rsF s [y])) [dV s, .val (.str [x]), .val (.str [y])] S := rin_v rfl (var_ok rfl)
  have b2 := rsF_b s [x]
  have b := subI_ok (frz_ok (mulI_ok (a := 2) c_ok a1 (by decide) (by decide))) (frz_ok (mulI_ok a2 a3 (by omega) (by omega)))
  exact def_rt (np := 3) (n := 3) (m := e_gap) (ds := [dcD (fN s) (gM s), .str [x], .str [y]]) rfl (ret_ok b)
theorem gap_ok {j : Nat} {sl : Sl} {s : List Nat} {x y : Nat} {mk ml : M D} (h : ρ[j]? = some sl) (hd : Dc sl (fN s) (gM s)) (hk : mk (ρ.set j (dV s)) S = .ok (.str [x]) (ρ.set j (dV s)) S) (hl : ml (ρ.set j (dV s)) S = .ok (.str [y]) (ρ.set j (dV s)) S) :
    M.frz (mCall0 m_gap (mCons (mVar j) (mCons mk (mCons ml mNil)))) ρ S = .ok (.int (gapF s x y)) (ρ.set j (dV s)) S :=
  frz_ok (call_ok (cons_ok (dvar_ok h hd) (cons_ok hk (cons_ok hl nil_ok))) gap_spec)
theorem aug_ok {i : Nat} {f : D → D → Option D} {m : M D} {x y z : D} (h : ρ[i]? = some (.val x)) (hm : m ρ S = .ok y ρ1 S1) (hf : f x y = some z) (hi : i < ρ1.length) : sAug i f m ρ S = .ok .nx (ρ1.set i (.val z)) S1 := by
  unfold sAug
  rw [h]
  dsimp only
  rw [hm]
  dsimp only
  rw [hf]
  dsimp only
  rw [if_pos hi]
theorem asg_ok {m : M D} {mt : D → M Fl} {d : D} (h : m ρ S = .ok d ρ1 S1) (ht : mt d ρ1 S1 = .ok .nx ρ2 S2) : sAsg m mt ρ S = .ok .nx ρ2 S2 := by
  unfold sAsg
  rw [b_ok h, ht]
abbrev pE (F G s2 a3 s4 s5 c6 c7 c8 a9 a10 a11 a12 a13 : Sl) : Env := [F, G, s2, a3, s4, s5, c6, c7, c8, a9, a10, a11, a12, a13]
variable {F G s2 a3 s4 s5 c6 c7 c8 a9 a10 a11 a12 a13 : Sl} {s t : List Nat}
theorem prod_1 {x : Nat} (h4 : Dc s4 (fN s) (gM s)) (h5 : Dc s5 (fN t) (gM t)) :
    p_product_1 (pE F G s2 (.val (.str [x])) s4 s5 c6 c7 c8 a9 a10 a11 a12 a13) S = .ok (prD (pF1 s t) [x]) (pE F G s2 (.val (.str [x])) (dV s) (dV t) c6 c7 c8 a9 a10 a11 a12 a13) S := by
  have e1 : M.frz (mCall0 m_rest_in (mCons (mVar 4) (mCons (mVar 3) mNil))) (pE F G s2 (.val (.str [x])) s4 s5 c6 c7 c8 a9 a10 a11 a12 a13) S = .ok (.int (rsF s [x])) (pE F G s2 (.val (.str [x])) (dV s) s5 c6 c7 c8 a9 a10 a11 a12 a13) S := rin_ok (j := 4) rfl h4 (var_ok rfl)
  have e2 : M.frz (mCall0 m_rest_in (mCons (mVar 5) (mCons (mVar 3) mNil))) (pE F G s2 (.val (.str [x])) (dV s) s5 c6 c7 c8 a9 a10 a11 a12 a13) S = .ok (.int (rsF t [x])) (pE F G s2 (.val (.str [x])) (dV s) (dV t) c6 c7 c8 a9 a10 a11 a12 a13) S := rin_ok (j := 5) rfl h5 (var_ok rfl)
  exact tup2_ok (var_ok rfl) (addI_ok e1 e2)
theorem prod_2 {x y : Nat} {A B : List D} (h4 : Dc s4 (fN s) (gM s)) (h5 : Dc s5 (fN t) (gM t)) (hl : B.length < 10000000) :
    p_product_2 (pE F G (.ow2 false [A, B, []]) (.val (.str [x, y])) s4 s5 c6 c7 c8 a9 a10 a11 a12 a13) S = .ok .nx (pE F G (.ow2 false [A, B ++ [prD (pF2 s t) [x, y]], []]) (.val (.str [x, y])) (dV s) (dV t) c6 c7 c8 (.val (.int (rsF s [x] * rsF t [y]))) a10 a11 a12 a13) S := by
  have e1 : M.frz (mCall0 m_rest_in (mCons (mVar 4) (mCons (mOpV dIx (mPk 3) (mK (mC (.int 0)))) mNil))) (pE F G (.ow2 false [A, B, []]) (.val (.str [x, y])) s4 s5 c6 c7 c8 a9 a10 a11 a12 a13) S = .ok (.int (rsF s [x])) (pE F G (.ow2 false [A, B, []]) (.val (.str [x, y])) (dV s) s5 c6 c7 c8 a9 a10 a11 a12 a13) S :=
    rin_ok (j := 4) rfl h4 (opV_ok (x := .str [x, y]) (y := .int 0) (pk_ok rfl rfl) (mk_ok c_ok) (pg_ok rfl rfl) rfl (ix_at (p := [x, y]) (i := 0) (c := x) rfl (show 2 ≤ 16777216 by decide)))
  have e2 : M.frz (mCall0 m_rest_in (mCons (mVar 5) (mCons (mOpV dIx (mPk 3) (mK (mC (.int 1)))) mNil))) (pE F G (.ow2 false [A, B, []]) (.val (.str [x, y])) (dV s) s5 c6 c7 c8 a9 a10 a11 a12 a13) S = .ok (.int (rsF t [y])) (pE F G (.ow2 false [A, B, []]) (.val (.str [x, y])) (dV s) (dV t) c6 c7 c8 a9 a10 a11 a12 a13) S :=
    rin_ok (j := 5) rfl h5 (opV_ok (x := .str [x, y]) (y := .int 1) (pk_ok rfl rfl) (mk_ok c_ok) (pg_ok rfl rfl) rfl (ix_at (p := [x, y]) (i := 1) (c := y) rfl (show 2 ≤ 16777216 by decide)))
  have b1 := rsF_b s [x]
  have e3 : sSet 9 _ (pE F G (.ow2 false [A, B, []]) (.val (.str [x, y])) s4 s5 c6 c7 c8 a9 a10 a11 a12 a13) S = .ok .nx (pE F G (.ow2 false [A, B, []]) (.val (.str [x, y])) (dV s) (dV t) c6 c7 c8 (.val (.int (rsF s [x] * rsF t [y]))) a10 a11 a12 a13) S := set_ok (mulI_ok e1 e2 (by omega) (by omega)) (by show 9 < 14; decide)
  unfold p_product_2
  rw [seq_nx e3]
  refine app2_ok (i := 2) (k := 1) (xss := [A, B, []]) (xs := B) (d := prD (pF2 s t) [x, y]) rfl rfl hl (tup2_ok (var_ok rfl) ?_)
  exact fop_ok (x := .int (rsF s [x, y] + rsF t [x, y])) (y := .int (rsF s [x] * rsF t [y])) (mk_ok (addI_ok (rin_v rfl (var_ok rfl)) (rin_v rfl (var_ok rfl)))) (pk_ok rfl rfl) rfl (pg_ok rfl rfl) rfl
theorem prod_3 {x y z : Nat} {A B C : List D} (h4 : Dc s4 (fN s) (gM s)) (h5 : Dc s5 (fN t) (gM t)) (hl : C.length < 10000000) (hx : x < 128) (hy : y < 128) (hz : z < 128) :
    ∃ a9', p_product_3 (pE F G (.ow2 false [A, B, C]) (.val (.str [x, y, z])) s4 s5 c6 c7 c8 a9 a10 a11 a12 a13) S = .ok .nx (pE F G (.ow2 false [A, B, C ++ [prD (pF3 s t) [x, y, z]]]) (.val (.str [x, y, z])) (dV s) (dV t) c6 c7 c8 a9' (.val (.str [x])) (.val (.str [y])) (.val (.str [z])) a13) S := by
  have e0 : sAsg (mVar 3) (tgS [10, 11, 12]) (pE F G (.ow2 false [A, B, C]) (.val (.str [x, y, z])) s4 s5 c6 c7 c8 a9 a10 a11 a12 a13) S = .ok .nx (pE F G (.ow2 false [A, B, C]) (.val (.str [x, y, z])) s4 s5 c6 c7 c8 a9 (.val (.str [x])) (.val (.str [y])) (.val (.str [z])) a13) S := by
    refine asg_ok (var_ok rfl) ?_
    unfold tgS
    dsimp only
    rw [if_pos (by refine ⟨?_, rfl⟩; simp [hx, hy, hz])]
    rfl
  have e1 : M.frz (mCall0 m_gap (mCons (mVar 4) (mCons (mVar 10) (mCons (mVar 11) mNil)))) (pE F G (.ow2 false [A, B, C]) (.val (.str [x, y, z])) s4 s5 c6 c7 c8 a9 (.val (.str [x])) (.val (.str [y])) (.val (.str [z])) a13) S = .ok (.int (gapF s x y)) (pE F G (.ow2 false [A, B, C]) (.val (.str [x, y, z])) (dV s) s5 c6 c7 c8 a9 (.val (.str [x])) (.val (.str [y])) (.val (.str [z])) a13) S :=
    gap_ok (j := 4) rfl h4 (var_ok rfl) (var_ok rfl)
  have e2 : M.frz (mCall0 m_rest_in (mCons (mVar 5) (mCons (mVar 12) mNil))) (pE F G (.ow2 false [A, B, C]) (.val (.str [x, y, z])) (dV s) s5 c6 c7 c8 a9 (.val (.str [x])) (.val (.str [y])) (.val (.str [z])) a13) S = .ok (.int (rsF t [z])) (pE F G (.ow2 false [A, B, C]) (.val (.str [x, y, z])) (dV s) (dV t) c6 c7 c8 a9 (.val (.str [x])) (.val (.str [y])) (.val (.str [z])) a13) S :=
    rin_ok (j := 5) rfl h5 (var_ok rfl)
  have b0 := gapF_b s x y
  have b1 := rsF_b s [x]
  have b2 := rsF_b s [y]
  have e3 : sSet 9 _ (pE F G (.ow2 false [A, B, C]) (.val (.str [x, y, z])) s4 s5 c6 c7 c8 a9 (.val (.str [x])) (.val (.str [y])) (.val (.str [z])) a13) S = .ok .nx (pE F G (.ow2 false [A, B, C]) (.val (.str [x, y, z])) (dV s) (dV t) c6 c7 c8 (.val (.int (gapF s x y * rsF t [z]))) (.val (.str [x])) (.val (.str [y])) (.val (.str [z])) a13) S := set_ok (mulI_ok e1 e2 b0.1 b0.2) (by show 9 < 14; decide)
  have e4 : sAug 9 dAddI (M.frz (mOp dMul (mK (M.frz (mCall0 m_rest_in (mCons (mVar 4) (mCons (mVar 10) mNil))))) (mK (M.frz (mCall0 m_rest_in (mCons (mVar 5) (mCons (M.frz (mOp dAdd (mPk 11) (mPk 12))) mNil))))))) (pE F G (.ow2 false [A, B, C]) (.val (.str [x, y, z])) (dV s) (dV t) c6 c7 c8 (.val (.int (gapF s x y * rsF t [z]))) (.val (.str [x])) (.val (.str [y])) (.val (.str [z])) a13) S = .ok .nx (pE F G (.ow2 false [A, B, C]) (.val (.str [x, y, z])) (dV s) (dV t) c6 c7 c8 (.val (.int (gapF s x y * rsF t [z] + rsF s [x] * rsF t [y, z]))) (.val (.str [x])) (.val (.str [y])) (.val (.str [z])) a13) S :=
    aug_ok (y := .int (rsF s [x] * rsF t [y, z])) rfl (frz_ok (mulI_ok (rin_v rfl (var_ok rfl)) (rin_v (n := [y, z]) rfl (add_ok (s := [y]) (t := [z]) rfl rfl (show 2 ≤ 16777216 by decide))) (by omega) (by omega))) rfl (by show 9 < 14; decide)
  have e5 : sAug 9 dSubI (M.frz (mOp dMul (mK (M.frz (mCall0 m_rest_in (mCons (mVar 4) (mCons (mVar 11) mNil))))) (mK (M.frz (mCall0 m_rest_in (mCons (mVar 5) (mCons (M.frz (mOp dAdd (mPk 10) (mPk 12))) mNil))))))) (pE F G (.ow2 false [A, B, C]) (.val (.str [x, y, z])) (dV s) (dV t) c6 c7 c8 (.val (.int (gapF s x y * rsF t [z] + rsF s [x] * rsF t [y, z]))) (.val (.str [x])) (.val (.str [y])) (.val (.str [z])) a13) S = .ok .nx (pE F G (.ow2 false [A, B, C]) (.val (.str [x, y, z])) (dV s) (dV t) c6 c7 c8 (.val (.int (gapF s x y * rsF t [z] + rsF s [x] * rsF t [y, z] - rsF s [y] * rsF t [x, z]))) (.val (.str [x])) (.val (.str [y])) (.val (.str [z])) a13) S :=
    aug_ok (y := .int (rsF s [y] * rsF t [x, z])) rfl (frz_ok (mulI_ok (rin_v rfl (var_ok rfl)) (rin_v (n := [x, z]) rfl (add_ok (s := [x]) (t := [z]) rfl rfl (show 2 ≤ 16777216 by decide))) (by omega) (by omega))) rfl (by show 9 < 14; decide)
  refine ⟨.val (.int (gapF s x y * rsF t [z] + rsF s [x] * rsF t [y, z] - rsF s [y] * rsF t [x, z])), ?_⟩
  unfold p_product_3
  rw [seq_nx e0, seq_nx e3, seq_nx e4, seq_nx e5]
  refine app2_ok (i := 2) (k := 2) (xss := [A, B, C]) (xs := C) (d := prD (pF3 s t) [x, y, z]) rfl rfl hl (tup2_ok (var_ok rfl) ?_)
  exact fop_ok (x := .int (rsF s [x, y, z] + rsF t [x, y, z])) (y := .int (gapF s x y * rsF t [z] + rsF s [x] * rsF t [y, z] - rsF s [y] * rsF t [x, z])) (mk_ok (addI_ok (rin_v rfl (var_ok rfl)) (rin_v rfl (var_ok rfl)))) (pk_ok rfl rfl) rfl (pg_ok rfl rfl) rfl
end
end Thr
namespace Thr
open PySem PySem.Spec PyProof.Rows L2 RZ Sh

section
variable {S : Store} {F G c6 c7 c8 a9 a10 a11 a12 a13 : Sl} {s t : List Nat} {L : List Nat}
abbrev lsD (L : List Nat) : Sl := .val (.lst (L.map chD))
abbrev nsD (N : List (List Nat)) : Sl := .val (.lst (N.map D.str))
theorem pars2_ok {ρ ρ1 ρ2 : Env} {S1 S2 : Store} {i j : Nat} {m n : M RV} {a b : RV} (h : m ρ S = .ok a ρ1 S1) (h' : n ρ1 S1 = .ok b ρ2 S2) (hi : i < ρ2.length) (hj : j < ρ2.length) : sPars [i, j] (rCons m (rCons n rNil)) ρ S = .ok .nx ((ρ2.set i a.toSl).set j b.toSl) S2 := by
  unfold sPars
  rw [b_ok (a := [a, b]) (by
    unfold rCons
    rw [b_ok h, b_ok (a := [b]) (by rw [b_ok h']; rfl)]
    rfl)]
  unfold putRVs
  rw [if_pos hi]
  unfold putRVs
  rw [if_pos (by rw [List.length_set]; exact hj)]
  rfl
theorem l2_ok {ρ ρ1 : Env} {S1 : Store} {m : M RV} {xs : List D} (h : m ρ S = .ok (.own xs) ρ1 S1) : mL2 (mLCons m (mLCons (mLst mNil) (mLCons (mLst mNil) mLNil))) ρ S = .ok (.ow2 false [xs, [], []]) ρ1 S1 := by
  unfold mL2
  rw [b_ok (a := [xs, [], []]) (by
    unfold mLCons
    rw [b_ok h]
    rfl)]
  rfl
theorem prod_lc {near far : Sl} (h4 : Dc near (fN s) (gM s)) (h5 : Dc far (fN t) (gM t)) (hl : L.length ≤ 8) :
    ∃ s4 s5, Dc s4 (fN s) (gM s) ∧ Dc s5 (fN t) (gM t) ∧ mLC [3] (mItA (mVar 6)) (tgN 3) mYes p_product_1 (pE F G .un .un near far (lsD L) c7 c8 .un .un .un .un .un) S = .ok (.own ((names1 L).map (prD (pF1 s t)))) (pE F G .un .un s4 s5 (lsD L) c7 c8 .un .un .un .un .un) S := by
  obtain ⟨ρ', e, s4, s5, d4, d5, i⟩ := lcL_inv (vs := [3]) (mt := tgN 3) (tt := mYes) (te := p_product_1) (S := S) chD (fun _ => true) (fun x => prD (pF1 s t) [x]) (fun ρ => ∃ s4 s5, Dc s4 (fN s) (gM s) ∧ Dc s5 (fN t) (gM t) ∧ wipeE ρ [3] = pE F G .un .un s4 s5 (lsD L) c7 c8 .un .un .un .un .un)
    L (pE F G .un .un near far (lsD L) c7 c8 .un .un .un .un .un) ⟨near, far, h4, h5, rfl⟩ fun x hx ρ0 i0 => by
      obtain ⟨s4, s5, d4, d5, i0⟩ := i0
      rw [i0]
      refine ⟨pE F G .un (.val (.str [x])) s4 s5 (lsD L) c7 c8 .un .un .un .un .un, _, rfl, rfl, fun z => (by cases z), fun _ => ⟨_, prod_1 d4 d5, dV s, dV t, .inr rfl, .inr rfl, rfl⟩⟩
  rw [List.filter_eq_self.mpr fun _ _ => rfl] at e
  refine ⟨s4, s5, d4, d5, ?_⟩
  unfold mLC
  rw [b_ok (itA_ok (ds := L.map chD) (var_ok rfl) rfl)]
  try dsimp only
  rw [if_pos (by rw [List.length_map]; omega), e]
  dsimp only
  rw [i]
  unfold names1
  rw [List.map_map]
  rfl
theorem prod_l2 {near far s3 : Sl} {A : List D} (h4 : Dc near (fN s) (gM s)) (h5 : Dc far (fN t) (gM t)) (hl : L.length ≤ 8) :
    ∃ s3' s4 s5 s9, Dc s4 (fN s) (gM s) ∧ Dc s5 (fN t) (gM t) ∧ sFor (mItA (mVar 7)) (tgN 3) p_product_2 (pE F G (.ow2 false [A, [], []]) s3 near far c6 (nsD (names2 L)) c8 .un .un .un .un .un) S = .ok .nx (pE F G (.ow2 false [A, (names2 L).map (prD (pF2 s t)), []]) s3' s4 s5 c6 (nsD (names2 L)) c8 s9 .un .un .un .un) S := by
  have l2 := names2_len hl
  obtain ⟨ρ', S', e, ⟨s3', s4, s5, s9, d4, d5, rfl⟩, rfl⟩ := forL_pre0 (tg := tgN 3) (body := p_product_2) D.str (fun q ρ S1 => (∃ s3' s4 s5 s9, Dc s4 (fN s) (gM s) ∧ Dc s5 (fN t) (gM t) ∧ ρ = pE F G (.ow2 false [A, q.map (prD (pF2 s t)), []]) s3' s4 s5 c6 (nsD (names2 L)) c8 s9 .un .un .un .un) ∧ S1 = S) (names2 L)
    (pE F G (.ow2 false [A, [], []]) s3 near far c6 (nsD (names2 L)) c8 .un .un .un .un .un) S ⟨⟨s3, near, far, .un, h4, h5, rfl⟩, rfl⟩ fun q n r hq ρ S1 hI => by
      obtain ⟨⟨s3', s4, s5, s9, d4, d5, rfl⟩, rfl⟩ := hI
      have hn : n ∈ names2 L := by rw [hq]; simp
      obtain ⟨x, y, rfl, _⟩ := names2_mem.mp hn
      have hql : (q.map (prD (pF2 s t))).length < 10000000 := by
        have : (names2 L).length = q.length + (r.length + 1) := by rw [hq]; simp
        rw [List.length_map]; omega
      exact ⟨pE F G (.ow2 false [A, q.map (prD (pF2 s t)), []]) (.val (.str [x, y])) s4 s5 c6 (nsD (names2 L)) c8 s9 .un .un .un .un, S1, .nx, _, S1, rfl, prod_2 d4 d5 hql, .inl rfl, ⟨_, dV s, dV t, _, .inr rfl, .inr rfl, by rw [List.map_append]; rfl⟩, rfl⟩
  exact ⟨s3', s4, s5, s9, d4, d5, by rw [for_ok (itA_ok (ds := (names2 L).map D.str) (var_ok rfl) rfl)]; exact e⟩
theorem prod_l3 {near far s3 s9 : Sl} {A B : List D} (h4 : Dc near (fN s) (gM s)) (h5 : Dc far (fN t) (gM t)) (hl : L.length ≤ 8) (ha : ∀ c, c ∈ L → c < 128) :
    ∃ s3' s4 s5 s9' s10 s11 s12, Dc s4 (fN s) (gM s) ∧ Dc s5 (fN t) (gM t) ∧ sFor (mItA (mVar 8)) (tgN 3) p_product_3 (pE F G (.ow2 false [A, B, []]) s3 near far c6 c7 (nsD (names3 L)) s9 .un .un .un .un) S = .ok .nx (pE F G (.ow2 false [A, B, (names3 L).map (prD (pF3 s t))]) s3' s4 s5 c6 c7 (nsD (names3 L)) s9' s10 s11 s12 .un) S := by
  have l3 := names3_len hl
  obtain ⟨ρ', S', e, ⟨s3', s4, s5, s9', s10, s11, s12, d4, d5, rfl⟩, rfl⟩ := forL_pre0 (tg := tgN 3) (body := p_product_3) D.str (fun q ρ S1 => (∃ s3' s4 s5 s9' s10 s11 s12, Dc s4 (fN s) (gM s) ∧ Dc s5 (fN t) (gM t) ∧ ρ = pE F G (.ow2 false [A, B, q.map (prD (pF3 s t))]) s3' s4 s5 c6 c7 (nsD (names3 L)) s9' s10 s11 s12 .un) ∧ S1 = S) (names3 L)
    (pE F G (.ow2 false [A, B, []]) s3 near far c6 c7 (nsD (names3 L)) s9 .un .un .un .un) S ⟨⟨s3, near, far, s9, .un, .un, .un, h4, h5, rfl⟩, rfl⟩ fun q n r hq ρ S1 hI => by
      obtain ⟨⟨s3', s4, s5, s9', s10, s11, s12, d4, d5, rfl⟩, rfl⟩ := hI
      have hn : n ∈ names3 L := by rw [hq]; simp
      obtain ⟨x, y, z, rfl, hx, hy, hz, _⟩ := names3_mem.mp hn
      have hql : (q.map (prD (pF3 s t))).length < 10000000 := by
        have : (names3 L).length = q.length + (r.length + 1) := by rw [hq]; simp
        rw [List.length_map]; omega
      obtain ⟨a9, e⟩ := prod_3 (S := S1) (F := F) (G := G) (A := A) (B := B) (c6 := c6) (c7 := c7) (c8 := nsD (names3 L)) (a9 := s9') (a10 := s10) (a11 := s11) (a12 := s12) (a13 := .un) d4 d5 hql (ha x hx) (ha y hy) (ha z hz)
      exact ⟨pE F G (.ow2 false [A, B, q.map (prD (pF3 s t))]) (.val (.str [x, y, z])) s4 s5 c6 c7 (nsD (names3 L)) s9' s10 s11 s12 .un, S1, .nx, _, S1, rfl, e, .inl rfl, ⟨_, dV s, dV t, _, _, _, _, .inr rfl, .inr rfl, by rw [List.map_append]; rfl⟩, rfl⟩
  exact ⟨s3', s4, s5, s9', s10, s11, s12, d4, d5, by rw [for_ok (itA_ok (ds := (names3 L).map D.str) (var_ok rfl) rfl)]; exact e⟩
end
theorem LB_len {s t : List Nat} (hs : RowL s) (ht : RowL t) : (LB s t).length ≤ 8 :=
  Nat.le_trans (nd_len (m := lettersL (s ++ t)) ((LB_asc s t).imp fun {a b} h => Nat.ne_of_lt h) fun x hx => LB_sub hx) (letters_len (rowL_app hs ht))
theorem LS_len {s : List Nat} (hs : RowL s) : (LS s).length ≤ 8 :=
  Nat.le_trans (nd_len (m := lettersL s) ((srtD_pw _ : (LS s).Pairwise (· < ·)).imp fun {a b} h => Nat.ne_of_lt h) fun x hx => LS_sub hx) (letters_len hs)
theorem kept_l {S : Store} {f : List Nat → Int} {N : List (List Nat)} (h : N.Pairwise (· < ·)) (hl : N.length < 10000000) : M.frz (mCall0 m_kept (mCons (mVar 13) mNil)) = p_product_4 := rfl
theorem product_spec {b b' : Bool} {s t : List Nat} {S : Store} (hs : RowL s) (ht : RowL t) : m_product [formK b s, formK b' t] S = .ok (.val (formD (s ++ t))) S := by
  have h8 := LB_len hs ht
  have ha := LB_asc s t
  have l2 := names2_len h8
  have l3 := names3_len h8
  have hsm : ∀ c, c ∈ LB s t → c < 128 := fun c hc => letters_small (rowL_app hs ht) (LB_sub hc)
  have e1 : sPars [4, 5] (rCons (mCall0 m_rests_of (mCons (mVar 0) mNil)) (rCons (mCall0 m_rests_of (mCons (mVar 1) mNil)) rNil)) (pE (.val (formK b s)) (.val (formK b' t)) .un .un .un .un .un .un .un .un .un .un .un .un) S = .ok .nx (pE (.val (formK b s)) (.val (formK b' t)) .un .un (.owd (kD (fN s)) (vD (fN s) (gM s))) (.owd (kD (fN t)) (vD (fN t) (gM t))) .un .un .un .un .un .un .un .un) S :=
    pars2_ok (call_ok (cons_ok (var_ok rfl) nil_ok) (rests_spec hs)) (call_ok (cons_ok (var_ok rfl) nil_ok) (rests_spec ht)) (by show 4 < 14; decide) (by show 5 < 14; decide)
  have e2 : M.frz (mCall0 m_names_for (mCons (mM1 dJoin (mK (mC (.str []))) (mK (M.frz (mSSet (M.frz (mOp dAdd (mK (M.frz (mCall0 m_letters_in (mCons (mVar 0) mNil)))) (mK (M.frz (mCall0 m_letters_in (mCons (mVar 1) mNil)))))))))) mNil)) (pE (.val (formK b s)) (.val (formK b' t)) .un .un (.owd (kD (fN s)) (vD (fN s) (gM s))) (.owd (kD (fN t)) (vD (fN t) (gM t))) .un .un .un .un .un .un .un .un) S = .ok (.lst [.lst ((LB s t).map chD), .lst ((names2 (LB s t)).map D.str), .lst ((names3 (LB s t)).map D.str)]) (pE (.val (formK b s)) (.val (formK b' t)) .un .un (.owd (kD (fN s)) (vD (fN s) (gM s))) (.owd (kD (fN t)) (vD (fN t) (gM t))) .un .un .un .un .un .un .un .un) S := by
    have x1 : (LS s).length ≤ 8 := LS_len hs
    have x2 : (LS t).length ≤ 8 := LS_len ht
    have y := fop_ok (f := dAdd) (x := .str (LS s)) (y := .str (LS t)) (mk_ok (frz_ok (call_ok (cons_ok (var_ok (ρ := pE (.val (formK b s)) (.val (formK b' t)) .un .un (.owd (kD (fN s)) (vD (fN s) (gM s))) (.owd (kD (fN t)) (vD (fN t) (gM t))) .un .un .un .un .un .un .un .un) (i := 0) (S := S) rfl) nil_ok) (letters_in_spec hs)))) (mk_ok (frz_ok (call_ok (cons_ok (var_ok (i := 1) rfl) nil_ok) (letters_in_spec ht)))) rfl rfl (add_str (by omega))
    have z := join_lets (sset_ok y (fun c hc => (List.mem_append.mp hc).elim (fun q => letters_small hs (LS_sub q)) fun q => letters_small ht (LS_sub q)) (by rw [List.length_append]; omega)) (by show (LB s t).length < _; omega)
    exact frz_ok (call_ok (cons_ok z nil_ok) (names_for_spec h8))
  have e3 : sAsg _ (tgL [6, 7, 8]) (pE (.val (formK b s)) (.val (formK b' t)) .un .un (.owd (kD (fN s)) (vD (fN s) (gM s))) (.owd (kD (fN t)) (vD (fN t) (gM t))) .un .un .un .un .un .un .un .un) S = .ok .nx (pE (.val (formK b s)) (.val (formK b' t)) .un .un (.owd (kD (fN s)) (vD (fN s) (gM s))) (.owd (kD (fN t)) (vD (fN t) (gM t))) (lsD (LB s t)) (nsD (names2 (LB s t))) (nsD (names3 (LB s t))) .un .un .un .un .un) S := asg_ok e2 rfl
  obtain ⟨s4, s5, d4, d5, e4⟩ := prod_lc (S := S) (F := .val (formK b s)) (G := .val (formK b' t)) (c7 := nsD (names2 (LB s t))) (c8 := nsD (names3 (LB s t))) (near := .owd (kD (fN s)) (vD (fN s) (gM s))) (far := .owd (kD (fN t)) (vD (fN t) (gM t))) (.inl rfl) (.inl rfl) h8
  have e5 : sSet 2 _ (pE (.val (formK b s)) (.val (formK b' t)) .un .un (.owd (kD (fN s)) (vD (fN s) (gM s))) (.owd (kD (fN t)) (vD (fN t) (gM t))) (lsD (LB s t)) (nsD (names2 (LB s t))) (nsD (names3 (LB s t))) .un .un .un .un .un) S = .ok .nx (pE (.val (formK b s)) (.val (formK b' t)) (.ow2 false [(names1 (LB s t)).map (prD (pF1 s t)), [], []]) .un s4 s5 (lsD (LB s t)) (nsD (names2 (LB s t))) (nsD (names3 (LB s t))) .un .un .un .un .un) S := set_ok (l2_ok e4) (by show 2 < 14; decide)
  obtain ⟨t3, t4, t5, t9, q4, q5, e6⟩ := prod_l2 (S := S) (F := .val (formK b s)) (G := .val (formK b' t)) (c6 := lsD (LB s t)) (c8 := nsD (names3 (LB s t))) (s3 := .un) (A := (names1 (LB s t)).map (prD (pF1 s t))) d4 d5 h8
  obtain ⟨u3, u4, u5, u9, u10, u11, u12, v4, v5, e7⟩ := prod_l3 (S := S) (F := .val (formK b s)) (G := .val (formK b' t)) (c6 := lsD (LB s t)) (c7 := nsD (names2 (LB s t))) (s3 := t3) (s9 := t9) (A := (names1 (LB s t)).map (prD (pF1 s t))) (B := (names2 (LB s t)).map (prD (pF2 s t))) q4 q5 h8 hsm
  have k1 := kept_spec (f := pF1 s t) (S := S) (names1_asc ha) (by unfold names1; rw [List.length_map]; omega)
  have k2 := kept_spec (f := pF2 s t) (S := S) (names2_asc ha) (by omega)
  have k3 := kept_spec (f := pF3 s t) (S := S) (names3_asc ha) (by omega)
  have e8 : sRet (mCallB fTuple (mKCons (mK (M.frz (mLC [13] (mItA (mVar 2)) (tgN 13) mYes p_product_4))) mKNil)) (pE (.val (formK b s)) (.val (formK b' t)) (.ow2 false [(names1 (LB s t)).map (prD (pF1 s t)), (names2 (LB s t)).map (prD (pF2 s t)), (names3 (LB s t)).map (prD (pF3 s t))]) u3 u4 u5 (lsD (LB s t)) (nsD (names2 (LB s t))) (nsD (names3 (LB s t))) u9 u10 u11 u12 .un) S = .ok (.rt (.val (formD (s ++ t)))) (pE (.val (formK b s)) (.val (formK b' t)) (.val (.lst [.lst ((names1 (LB s t)).map (prD (pF1 s t))), .lst ((names2 (LB s t)).map (prD (pF2 s t))), .lst ((names3 (LB s t)).map (prD (pF3 s t)))])) u3 u4 u5 (lsD (LB s t)) (nsD (names2 (LB s t))) (nsD (names3 (LB s t))) u9 u10 u11 u12 .un) S := by
    rw [← prod_form hs ht]
    obtain ⟨ρ', e, i⟩ := lcL_inv (vs := [13]) (mt := tgN 13) (tt := mYes) (te := p_product_4) (S := S) (fun p : D × D => p.1) (fun _ => true) (fun p : D × D => p.2) (fun ρ => wipeE ρ [13] = (pE (.val (formK b s)) (.val (formK b' t)) (.val (.lst [.lst ((names1 (LB s t)).map (prD (pF1 s t))), .lst ((names2 (LB s t)).map (prD (pF2 s t))), .lst ((names3 (LB s t)).map (prD (pF3 s t)))])) u3 u4 u5 (lsD (LB s t)) (nsD (names2 (LB s t))) (nsD (names3 (LB s t))) u9 u10 u11 u12 .un))
      [(.lst ((names1 (LB s t)).map (prD (pF1 s t))), partD (pF1 s t) (names1 (LB s t))), (.lst ((names2 (LB s t)).map (prD (pF2 s t))), partD (pF2 s t) (names2 (LB s t))), (.lst ((names3 (LB s t)).map (prD (pF3 s t))), partD (pF3 s t) (names3 (LB s t)))] (pE (.val (formK b s)) (.val (formK b' t)) (.val (.lst [.lst ((names1 (LB s t)).map (prD (pF1 s t))), .lst ((names2 (LB s t)).map (prD (pF2 s t))), .lst ((names3 (LB s t)).map (prD (pF3 s t)))])) u3 u4 u5 (lsD (LB s t)) (nsD (names2 (LB s t))) (nsD (names3 (LB s t))) u9 u10 u11 u12 .un) rfl fun p hp ρ0 i0 => by
        rw [i0]
        refine ⟨(pE (.val (formK b s)) (.val (formK b' t)) (.val (.lst [.lst ((names1 (LB s t)).map (prD (pF1 s t))), .lst ((names2 (LB s t)).map (prD (pF2 s t))), .lst ((names3 (LB s t)).map (prD (pF3 s t)))])) u3 u4 u5 (lsD (LB s t)) (nsD (names2 (LB s t))) (nsD (names3 (LB s t))) u9 u10 u11 u12 (.val p.1)), _, rfl, rfl, fun z => (by cases z), fun _ => ⟨(pE (.val (formK b s)) (.val (formK b' t)) (.val (.lst [.lst ((names1 (LB s t)).map (prD (pF1 s t))), .lst ((names2 (LB s t)).map (prD (pF2 s t))), .lst ((names3 (LB s t)).map (prD (pF3 s t)))])) u3 u4 u5 (lsD (LB s t)) (nsD (names2 (LB s t))) (nsD (names3 (LB s t))) u9 u10 u11 u12 (.val p.1)), ?_, rfl⟩⟩
        simp only [List.mem_cons, List.not_mem_nil, or_false] at hp
        rcases hp with rfl | rfl | rfl
        · exact frz_ok (call_ok (cons_ok (var_ok rfl) nil_ok) k1)
        · exact frz_ok (call_ok (cons_ok (var_ok rfl) nil_ok) k2)
        · exact frz_ok (call_ok (cons_ok (var_ok rfl) nil_ok) k3)
    rw [List.filter_eq_self.mpr fun _ _ => rfl] at e
    refine ret_ok (callB1_ok (mk_ok (frz_ok (r := .own [partD (pF1 s t) (names1 (LB s t)), partD (pF2 s t) (names2 (LB s t)), partD (pF3 s t) (names3 (LB s t))]) ?_)) rfl rfl)
    have hi2 : mItA (mVar 2) (pE (.val (formK b s)) (.val (formK b' t)) (.ow2 false [(names1 (LB s t)).map (prD (pF1 s t)), (names2 (LB s t)).map (prD (pF2 s t)), (names3 (LB s t)).map (prD (pF3 s t))]) u3 u4 u5 (lsD (LB s t)) (nsD (names2 (LB s t))) (nsD (names3 (LB s t))) u9 u10 u11 u12 .un) S = .ok [.lst ((names1 (LB s t)).map (prD (pF1 s t))), .lst ((names2 (LB s t)).map (prD (pF2 s t))), .lst ((names3 (LB s t)).map (prD (pF3 s t)))] (pE (.val (formK b s)) (.val (formK b' t)) (.val (.lst [.lst ((names1 (LB s t)).map (prD (pF1 s t))), .lst ((names2 (LB s t)).map (prD (pF2 s t))), .lst ((names3 (LB s t)).map (prD (pF3 s t)))])) u3 u4 u5 (lsD (LB s t)) (nsD (names2 (LB s t))) (nsD (names3 (LB s t))) u9 u10 u11 u12 .un) S := rfl
    unfold mLC
    rw [b_ok hi2]
    try dsimp only
    rw [if_pos (by show 3 < 10000000; decide)]
    have e' : lcL [13] (tgN 13) mYes p_product_4 [.lst ((names1 (LB s t)).map (prD (pF1 s t))), .lst ((names2 (LB s t)).map (prD (pF2 s t))), .lst ((names3 (LB s t)).map (prD (pF3 s t)))] _ S = _ := e
    rw [e']
    dsimp only
    rw [i]
    rfl
  exact def_rt (np := 2) (n := 14) (m := e_product) (ds := [formK b s, formK b' t]) rfl ((seq_nx e1).trans ((seq_nx e3).trans ((seq_nx e5).trans ((seq_nx e6).trans ((seq_nx e7).trans e8)))))
end Thr
namespace Thr
open PySem PySem.Spec PyProof.Rows L2 RZ Sh

/-! ### tupled, _law_lists -/
section
variable {S : Store}
theorem isi_sq {b : Bool} {ds : List D} {sl : Sl} : mIsiT ["list", "tuple"] (mPk 0) [.val (sqK b ds), sl] S = .ok (.bl true) [.val (sqK b ds), sl] S := by cases b <;> rfl
theorem isi_str {s : List Nat} {sl : Sl} : mIsiT ["list", "tuple"] (mPk 0) [.val (.str s), sl] S = .ok (.bl false) [.val (.str s), sl] S := rfl
theorem isi_int {i : Int} {sl : Sl} : mIsiT ["list", "tuple"] (mPk 0) [.val (.int i), sl] S = .ok (.bl false) [.val (.int i), sl] S := rfl
theorem rec_lc {b : Bool} {ds : List D} {te : M D} (f : D → D) (hl : ds.length < 10000000) (h : ∀ d, d ∈ ds → te [.val (sqK b ds), .val d] S = .ok (f d) [.val (sqK b ds), .val d] S) :
    mLC [1] (mItA (mVar 0)) (tgN 1) mYes te [.val (sqK b ds), .un] S = .ok (.own (ds.map f)) [.val (sqK b ds), .un] S :=
  lc1_map (ρ := [.val (sqK b ds), .un]) (v := 1) f (itA_ok (var_ok rfl) (sqK_it b ds)) rfl (.inl rfl) hl h
abbrev tE (f : MF) : M Fl := sRet (mIf (mBl (mIsiT ["list", "tuple"] (mPk 0))) (mCallB fTuple (mKCons (mK (M.frz (mLC [1] (mItA (mVar 0)) (tgN 1) mYes (p_tupled_1 f)))) mKNil)) (M.vl (mVar 0)))
abbrev lE (f : MF) : M Fl := sRet (mIf (mBl (mIsiT ["list", "tuple"] (mPk 0))) (mLC [1] (mItA (mVar 0)) (tgN 1) mYes (p__law_lists_1 f)) (M.vl (mVar 0)))
theorem tup_node {b : Bool} {ds : List D} {n : Nat} (f : D → D) (hl : ds.length < 10000000) (h : ∀ d, d ∈ ds → i_tupled n [d] S = .ok (.val (f d)) S) : i_tupled (n + 1) [sqK b ds] S = .ok (.val (.tup (ds.map f))) S := by
  have e := rec_lc (b := b) (S := S) (te := p_tupled_1 (i_tupled n)) f hl fun d hd => val_ok (call_ok (cons_ok (var_ok rfl) nil_ok) (h d hd))
  refine def_rt (np := 1) (n := 2) (m := tE (i_tupled n)) (ds := [sqK b ds]) (r := .val (.tup (ds.map f))) (ρ' := [.val (sqK b ds), .un]) rfl (ret_ok ((mIf_t (bl_ok isi_sq)).trans ?_))
  exact callB1_ok (mk_ok (own_ok e)) rfl rfl
theorem tup_str {s : List Nat} {n : Nat} : i_tupled (n + 1) [.str s] S = .ok (.val (.str s)) S :=
  def_rt (np := 1) (n := 2) (m := tE (i_tupled n)) (ds := [.str s]) (r := .val (.str s)) (ρ' := [.val (.str s), .un]) rfl (ret_ok ((mIf_f (bl_ok isi_str)).trans rfl))
theorem tup_int {i : Int} {n : Nat} : i_tupled (n + 1) [.int i] S = .ok (.val (.int i)) S :=
  def_rt (np := 1) (n := 2) (m := tE (i_tupled n)) (ds := [.int i]) (r := .val (.int i)) (ρ' := [.val (.int i), .un]) rfl (ret_ok ((mIf_f (bl_ok isi_int)).trans rfl))
theorem lis_node {b : Bool} {ds : List D} {n : Nat} (f : D → D) (hl : ds.length < 10000000) (h : ∀ d, d ∈ ds → ∃ r, i__law_lists n [d] S = .ok r S ∧ r.toD = f d) : i__law_lists (n + 1) [sqK b ds] S = .ok (.own (ds.map f)) S := by
  have e := rec_lc (b := b) (S := S) (te := p__law_lists_1 (i__law_lists n)) f hl fun d hd => by
    obtain ⟨r, e1, e2⟩ := h d hd
    rw [← e2]
    exact frz_ok (call_ok (cons_ok (var_ok rfl) nil_ok) e1)
  exact def_rt (np := 1) (n := 2) (m := lE (i__law_lists n)) (ds := [sqK b ds]) (r := .own (ds.map f)) (ρ' := [.val (sqK b ds), .un]) rfl (ret_ok ((mIf_t (bl_ok isi_sq)).trans e))
theorem lis_str {s : List Nat} {n : Nat} : i__law_lists (n + 1) [.str s] S = .ok (.val (.str s)) S :=
  def_rt (np := 1) (n := 2) (m := lE (i__law_lists n)) (ds := [.str s]) (r := .val (.str s)) (ρ' := [.val (.str s), .un]) rfl (ret_ok ((mIf_f (bl_ok isi_str)).trans rfl))
theorem lis_int {i : Int} {n : Nat} : i__law_lists (n + 1) [.int i] S = .ok (.val (.int i)) S :=
  def_rt (np := 1) (n := 2) (m := lE (i__law_lists n)) (ds := [.int i]) (r := .val (.int i)) (ρ' := [.val (.int i), .un]) rfl (ret_ok ((mIf_f (bl_ok isi_int)).trans rfl))
end
/-- all of a thing's lists and tuples as tuples, as lists -/
def reK (k b : Bool) : Nat → D → D
  | 0, d => d
  | n + 1, .tup ds => sqK k (ds.map (reK k b n))
  | n + 1, .lst ds => sqK k (ds.map (reK k b n))
  | n + 1, d => d
theorem reK_sq {k b c : Bool} {n : Nat} {ds : List D} : reK k b (n + 1) (sqK c ds) = sqK k (ds.map (reK k b n)) := by cases c <;> rfl
theorem it_re {k c : Bool} {n : Nat} {s m : List Nat} : reK k true (n + 2) (itK c s m) = itK k s m := by
  unfold itK
  rw [reK_sq]
  rfl
theorem form_re {k c : Bool} {s : List Nat} : reK k true 4 (formK c s) = formK k s := by
  unfold formK
  rw [reK_sq]
  simp only [List.map_cons, List.map_nil]
  rw [reK_sq, reK_sq, reK_sq]
  simp only [List.map_map]
  have e : (reK k true 2 ∘ itK c s) = itK k s := by
    funext m
    exact it_re
  rw [e]
section
variable {S : Store}
theorem fN1_len {s : List Nat} (h : RowL s) : (fN1 s).length ≤ 584 ∧ (fN2 s).length ≤ 584 ∧ (fN3 s).length ≤ 584 := by
  have := fN_len h
  unfold fN at this
  rw [List.length_append, List.length_append] at this
  omega
theorem tup_it {c : Bool} {s m : List Nat} {n : Nat} : i_tupled (n + 2) [itK c s m] S = .ok (.val (itK true s m)) S :=
  tup_node (b := c) (ds := [.str m, .int (gM s m)]) (fun d => d) (by show 2 < 10000000; decide) fun d hd => by
    simp only [List.mem_cons, List.not_mem_nil, or_false] at hd
    rcases hd with rfl | rfl
    · exact tup_str
    · exact tup_int
theorem it_true (c : Bool) (s : List Nat) : (reK true true 2 ∘ itK c s) = itK true s := by
  funext m
  exact it_re
theorem tup_part {c : Bool} {s : List Nat} {N : List (List Nat)} {n : Nat} (hl : N.length ≤ 584) : i_tupled (n + 3) [sqK c (N.map (itK c s))] S = .ok (.val (sqK true (N.map (itK true s)))) S := by
  have := tup_node (b := c) (S := S) (ds := N.map (itK c s)) (n := n + 2) (reK true true 2) (by rw [List.length_map]; omega) fun d hd => by
    obtain ⟨m, hm, rfl⟩ := List.mem_map.mp hd
    rw [it_re]
    exact tup_it
  rw [List.map_map, it_true] at this
  exact this
theorem tup_form {c : Bool} {s : List Nat} {n : Nat} (h : RowL s) : i_tupled (n + 4) [formK c s] S = .ok (.val (formD s)) S := by
  obtain ⟨l1, l2, l3⟩ := fN1_len h
  have := tup_node (b := c) (S := S) (ds := [sqK c ((fN1 s).map (itK c s)), sqK c ((fN2 s).map (itK c s)), sqK c ((fN3 s).map (itK c s))]) (n := n + 3) (reK true true 3) (by show 3 < 10000000; decide) fun d hd => by
    simp only [List.mem_cons, List.not_mem_nil, or_false] at hd
    rcases hd with rfl | rfl | rfl
    all_goals
      rw [reK_sq, List.map_map, it_true]
      exact tup_part (by assumption)
  simp only [List.map_cons, List.map_nil] at this
  rw [reK_sq, reK_sq, reK_sq] at this
  simp only [List.map_map, it_true] at this
  rw [← formK_true]
  exact this
theorem tupled_spec {c : Bool} {s : List Nat} (h : RowL s) : m_tupled [formK c s] S = .ok (.val (formD s)) S := tup_form (n := 4) h
theorem lis_it {c : Bool} {s m : List Nat} {n : Nat} : i__law_lists (n + 2) [itK c s m] S = .ok (.own [.str m, .int (gM s m)]) S :=
  lis_node (b := c) (ds := [.str m, .int (gM s m)]) (fun d => d) (by show 2 < 10000000; decide) fun d hd => by
    simp only [List.mem_cons, List.not_mem_nil, or_false] at hd
    rcases hd with rfl | rfl
    · exact ⟨_, lis_str, rfl⟩
    · exact ⟨_, lis_int, rfl⟩
theorem it_false (c : Bool) (s : List Nat) : (reK false true 2 ∘ itK c s) = itK false s := by
  funext m
  exact it_re
theorem lis_part {c : Bool} {s : List Nat} {N : List (List Nat)} {n : Nat} (hl : N.length ≤ 584) : i__law_lists (n + 3) [sqK c (N.map (itK c s))] S = .ok (.own (N.map (itK false s))) S := by
  have := lis_node (b := c) (S := S) (ds := N.map (itK c s)) (n := n + 2) (reK false true 2) (by rw [List.length_map]; omega) fun d hd => by
    obtain ⟨m, hm, rfl⟩ := List.mem_map.mp hd
    rw [it_re]
    exact ⟨_, lis_it, rfl⟩
  rw [List.map_map, it_false] at this
  exact this
theorem lis_form {c : Bool} {s : List Nat} {n : Nat} (h : RowL s) : ∃ r, i__law_lists (n + 4) [formK c s] S = .ok r S ∧ r.toD = formK false s := by
  obtain ⟨l1, l2, l3⟩ := fN1_len h
  have := lis_node (b := c) (S := S) (ds := [sqK c ((fN1 s).map (itK c s)), sqK c ((fN2 s).map (itK c s)), sqK c ((fN3 s).map (itK c s))]) (n := n + 3) (reK false true 3) (by show 3 < 10000000; decide) fun d hd => by
    simp only [List.mem_cons, List.not_mem_nil, or_false] at hd
    rcases hd with rfl | rfl | rfl
    all_goals
      rw [reK_sq, List.map_map, it_false]
      exact ⟨_, lis_part (by assumption), rfl⟩
  simp only [List.map_cons, List.map_nil] at this
  rw [reK_sq, reK_sq, reK_sq] at this
  simp only [List.map_map, it_false] at this
  exact ⟨_, this, rfl⟩
/-- a list of forms -/
theorem lis_forms {c k : Bool} {ss : List (List Nat)} {n : Nat} (h : ∀ s, s ∈ ss → RowL s) (hl : ss.length < 10000000) : i__law_lists (n + 5) [sqK c (ss.map (formK k))] S = .ok (.own (ss.map (formK false))) S := by
  have := lis_node (b := c) (S := S) (ds := ss.map (formK k)) (n := n + 4) (reK false true 4) (by rw [List.length_map]; exact hl) fun d hd => by
    obtain ⟨s, hs, rfl⟩ := List.mem_map.mp hd
    rw [form_re]
    exact lis_form (h s hs)
  rw [List.map_map] at this
  rw [this]
  congr 2
  refine List.map_congr_left fun s hs => ?_
  exact form_re
/-! ### product_of, power -/
theorem prof_spec {b : Bool} {ps : List (Bool × List Nat)} (h : ∀ p, p ∈ ps → RowL p.2) : m_product_of [sqK b (ps.map fun p => formK p.1 p.2)] S = .ok (.val (formD (ps.map (·.2)).flatten)) S := by
  obtain ⟨ρ', S', e, ⟨s2, rfl⟩, rfl⟩ := forL_pre0 (tg := tgN 2) (body := p_product_of_1) (fun p : Bool × List Nat => formK p.1 p.2) (fun q ρ S1 => (∃ s2, ρ = [.val (sqK b (ps.map fun p => formK p.1 p.2)), .val (formD (q.map (·.2)).flatten), s2]) ∧ S1 = S) ps
    [.val (sqK b (ps.map fun p => formK p.1 p.2)), .val noF, .un] S ⟨⟨.un, rfl⟩, rfl⟩ fun q p r hq ρ S1 hI => by
      obtain ⟨⟨s2, rfl⟩, rfl⟩ := hI
      have hp : RowL p.2 := h p (by rw [hq]; simp)
      have hqr : RowL (q.map (·.2)).flatten := fun c hc => by
        obtain ⟨l, hl, hcl⟩ := List.mem_flatten.mp hc
        obtain ⟨p', hp', rfl⟩ := List.mem_map.mp hl
        exact h p' (by rw [hq]; simp [hp']) c hcl
      have e1 := product_spec (b := true) (b' := p.1) (S := S1) hqr hp
      rw [formK_true] at e1
      refine ⟨[.val (sqK b (ps.map fun p => formK p.1 p.2)), .val (formD (q.map (·.2)).flatten), .val (formK p.1 p.2)], S1, .nx, [.val (sqK b (ps.map fun p => formK p.1 p.2)), .val (formD ((q.map (·.2)).flatten ++ p.2)), .val (formK p.1 p.2)], S1, rfl, ?_, .inl rfl, ⟨.val (formK p.1 p.2), ?_⟩, rfl⟩
      · exact set_ok (ρ1 := [.val (sqK b (ps.map fun p => formK p.1 p.2)), .val (formD (q.map (·.2)).flatten), .val (formK p.1 p.2)]) (r := .val (formD ((q.map (·.2)).flatten ++ p.2))) (call_ok (cons_ok (var_ok rfl) (cons_ok (var_ok rfl) nil_ok)) e1) (by show 1 < 3; decide)
      · simp
  have e0 : sSet 1 (M.vl (mC (.tup [.tup [], .tup [], .tup []]))) [.val (sqK b (ps.map fun p => formK p.1 p.2)), .un, .un] S' = .ok .nx [.val (sqK b (ps.map fun p => formK p.1 p.2)), .val noF, .un] S' := rfl
  have e1 := (for_ok (itA_ok (ρ := [.val (sqK b (ps.map fun p => formK p.1 p.2)), .val noF, .un]) (var_ok (i := 0) rfl) (sqK_it b _))).trans e
  exact def_rt (np := 1) (n := 3) (m := e_product_of) (ds := [sqK b (ps.map fun p => formK p.1 p.2)]) rfl ((seq_nx e0).trans ((seq_nx e1).trans (ret_ok (vl_ok (var_ok rfl)))))
def repR (s : List Nat) (k : Nat) : List Nat := (List.replicate k s).flatten
theorem rowL_rep {s : List Nat} (h : RowL s) (k : Nat) : RowL (repR s k) := fun c hc => by
  unfold repR at hc
  obtain ⟨l, hl, hcl⟩ := List.mem_flatten.mp hc
  rw [List.eq_of_mem_replicate hl] at hcl
  exact h c hcl
theorem power_spec {b : Bool} {s : List Nat} {m : Int} (h : RowL s) : m_power [formK b s, .int m] S = .ok (.val (formD (repR s (m % 3).toNat))) S := by
  have e1 := tupled_spec (c := b) (S := S) h
  have k0 : 0 ≤ m % 3 := by omega
  have k1 : m % 3 < 3 := by omega
  have e2 : dMul (.lst [formD s]) (.int (m % 3)) = some (.own ((List.replicate (m % 3).toNat s).map fun s => formK true s)) := by
    unfold dMul
    dsimp only
    rw [if_pos ⟨by omega, by omega, by
      rw [SZ_is]
      show 1 * (m % 3).toNat ≤ _
      omega⟩]
    congr 2
    generalize (m % 3).toNat = k
    induction k with
    | zero => rfl
    | succ k ih => rw [List.replicate_succ, List.replicate_succ, List.flatten_cons, ih, List.map_cons, formK_true]; rfl
  have e3 := prof_spec (b := false) (S := S) (ps := (List.replicate (m % 3).toNat s).map fun s => (true, s)) fun p hp => by
    obtain ⟨s', hs', rfl⟩ := List.mem_map.mp hp
    rw [List.eq_of_mem_replicate hs']
    exact h
  rw [List.map_map, List.map_map] at e3
  have e4 : (List.replicate (m % 3).toNat s).map ((fun p : Bool × List Nat => p.2) ∘ fun s => (true, s)) = List.replicate (m % 3).toNat s := by
    rw [show ((fun p : Bool × List Nat => p.2) ∘ fun s : List Nat => (true, s)) = id from rfl, List.map_id]
  rw [e4] at e3
  refine def_rt (np := 2) (n := 2) (m := e_power) (ds := [formK b s, .int m]) (ρ' := [.val (formK b s), .val (.int m)]) rfl (ret_ok (call_ok (cons_ok ?_ nil_ok) e3))
  refine own_ok (op_ok (x := .lst [formD s]) (y := .int (m % 3)) (mk_ok (own_ok (lst_ok (cons_ok (cv1 (var_ok rfl) e1) nil_ok) (by show 1 ≤ 16777216; decide)))) (mk_ok (fop_ok (x := .int m) (y := .int 3) (d := .int (m % 3)) (pk_ok rfl rfl) (mk_ok c_ok) (pg_ok rfl rfl) rfl rfl)) rfl rfl e2)
end
end Thr
namespace Thr
open PySem PySem.Spec PyProof.Rows L2 RZ Sh

theorem okD_sq {b : Bool} {n : Nat} {xs : List D} : okD (n + 1) (sqK b xs) = (decide (xs.length < 1000000) && xs.all (okD n)) := by cases b <;> rfl
theorem okD_parts {b : Bool} {s : List Nat} {N : List (List Nat)} (n : Nat) (hl : N.length ≤ 584) : okD (n + 2) (sqK b (N.map (itK b s))) = true := by
  rw [okD_sq, Bool.and_eq_true, List.all_eq_true]
  refine ⟨decide_eq_true (by rw [List.length_map]; omega), fun d hd => ?_⟩
  obtain ⟨m, _, rfl⟩ := List.mem_map.mp hd
  unfold itK
  rw [okD_sq]
  cases n <;> rfl
theorem okD_formK {b : Bool} {s : List Nat} (n : Nat) (h : RowL s) : okD (n + 3) (formK b s) = true := by
  obtain ⟨l1, l2, l3⟩ := fN1_len h
  unfold formK
  rw [okD_sq]
  simp [okD_parts n l1, okD_parts n l2, okD_parts n l3]
/-! ### turned rows, swaps -/
theorem own_var {ρ : Env} {S : Store} {i : Nat} {xs : List D} (h : ρ[i]? = some (.own xs)) : mVar i ρ S = .ok (.lst xs) (ρ.set i (.val (.lst xs))) S := by unfold mVar; rw [h]
theorem eqC_sq {t : List Nat} (h : RowL t) : EqC (plainL (t ++ t)) (plainL (backL t)) := by
  have a := (EqC.refl (plainL (t ++ t))).app (eqC_back h)
  rw [List.append_nil] at a
  have b := (eqC_3 t).app (EqC.refl (plainL (backL t)))
  rw [List.nil_append] at b
  refine a.symm.trans (EqC.trans ?_ b)
  rw [← plainL_app, ← plainL_app]
  simp only [List.append_assoc]
  exact EqC.refl _
theorem rep_2 (t : List Nat) : repR t 2 = t ++ t := by unfold repR; simp [List.replicate]
theorem rep_sq {t : List Nat} (h : RowL t) : EqC (plainL (repR t 2)) (plainL (backL t)) := by
  rw [rep_2]; exact eqC_sq h
section
variable {S : Store} {s t : List Nat}
theorem pow2_spec {b : Bool} (h : RowL s) : m_power [formK b s, .int 2] S = .ok (.val (formD (repR s 2))) S := power_spec (m := 2) h
theorem formK_t (s : List Nat) : formD s = formK true s := (formK_true s).symm
theorem prod_D {b : Bool} (hs : RowL s) (ht : RowL t) : m_product [formD s, formK b t] S = .ok (.val (formD (s ++ t))) S := by
  rw [formK_t s]; exact product_spec hs ht
theorem prod_D' {b : Bool} (hs : RowL s) (ht : RowL t) : m_product [formK b s, formD t] S = .ok (.val (formD (s ++ t))) S := by
  rw [formK_t t]; exact product_spec hs ht
theorem prod_DD (hs : RowL s) (ht : RowL t) : m_product [formD s, formD t] S = .ok (.val (formD (s ++ t))) S := by
  rw [formK_t s]; exact prod_D' hs ht
theorem turned_form_spec {b b' : Bool} (hs : RowL s) (ht : RowL t) : m_turned_form [formK b s, formK b' t] S = .ok (.val (formD (backL t ++ s ++ t))) S := by
  have e1 := pow2_spec (S := S) (b := b') ht
  have e2 := prod_D (S := S) (b := b) (rowL_rep ht 2) hs
  have e3 := prod_D (S := S) (b := b') (rowL_app (rowL_rep ht 2) hs) ht
  have e : formD (repR t 2 ++ s ++ t) = formD (backL t ++ s ++ t) := by
    refine formD_eq (rowL_app (rowL_app (rowL_rep ht 2) hs) ht) (rowL_app (rowL_app (flip_row ht).1 hs) ht) ?_
    simp only [plainL_app]
    exact ((rep_sq ht).app (EqC.refl _)).app (EqC.refl _)
  rw [e] at e3
  exact def_rt (np := 2) (n := 2) (m := e_turned_form) (ds := [formK b s, formK b' t]) (ρ' := [.val (formK b s), .val (formK b' t)]) rfl (ret_ok (call_ok (cons_ok (cv2 (cv2 (var_ok rfl) c_ok e1) (var_ok rfl) e2) (cons_ok (var_ok rfl) nil_ok)) e3))
theorem turned_row_spec (hs : RowL s) (ht : RowL t) (h1 : s.length < 100000) (h2 : t.length < 100000) : m_turned_row [.str s, .str t] S = .ok (.val (.str (backL t ++ s ++ t))) S := by
  have e1 := undone_spec (S := S) ht (by omega)
  have l2 := (flip_row ht).2.1
  exact def_rt (np := 2) (n := 2) (m := e_turned_row) (ds := [.str s, .str t]) (ρ' := [.val (.str s), .val (.str t)]) rfl (ret_ok (op_ok (x := .str (backL t ++ s)) (y := .str t) (mk_ok (fop_ok (x := .str (backL t)) (y := .str s) (d := .str (backL t ++ s)) (mk_ok (cv1 (var_ok rfl) e1)) (pk_ok rfl rfl) rfl (pg_ok rfl rfl) (add_str (by omega)))) (pk_ok rfl rfl) rfl (pg_ok rfl rfl) (add_str (by rw [List.length_append]; omega))))
def swL (s t : List Nat) : List Nat := backL s ++ backL t ++ s ++ t
theorem swL_row (hs : RowL s) (ht : RowL t) : RowL (swL s t) := rowL_app (rowL_app (rowL_app (flip_row hs).1 (flip_row ht).1) hs) ht
theorem swap_row_spec (hs : RowL s) (ht : RowL t) (h1 : s.length < 100000) (h2 : t.length < 100000) : m_swap_row [.str s, .str t] S = .ok (.val (.str (swL s t))) S := by
  have e1 := undone_spec (S := S) hs (by omega)
  have e2 := undone_spec (S := S) ht (by omega)
  have l1 := (flip_row hs).2.1
  have l2 := (flip_row ht).2.1
  exact def_rt (np := 2) (n := 2) (m := e_swap_row) (ds := [.str s, .str t]) (ρ' := [.val (.str s), .val (.str t)]) rfl (ret_ok (op_ok (x := .str (backL s ++ backL t ++ s)) (y := .str t) (mk_ok (fop_ok (x := .str (backL s ++ backL t)) (y := .str s) (d := .str (backL s ++ backL t ++ s)) (mk_ok (fop_ok (x := .str (backL s)) (y := .str (backL t)) (d := .str (backL s ++ backL t)) (mk_ok (cv1 (var_ok rfl) e1)) (mk_ok (cv1 (var_ok rfl) e2)) rfl rfl (add_str (by omega)))) (pk_ok rfl rfl) rfl (pg_ok rfl rfl) (add_str (by rw [List.length_append]; omega)))) (pk_ok rfl rfl) rfl (pg_ok rfl rfl) (add_str (by rw [List.length_append, List.length_append]; omega))))
theorem swap_two_spec {b b' : Bool} (hs : RowL s) (ht : RowL t) : m_swap_two [formK b s, formK b' t] S = .ok (.val (formD (swL s t))) S := by
  have e1 := pow2_spec (S := S) (b := b) hs
  have e2 := pow2_spec (S := S) (b := b') ht
  have e3 := prod_DD (S := S) (rowL_rep hs 2) (rowL_rep ht 2)
  have e4 := product_spec (S := S) (b := b) (b' := b') hs ht
  have e5 := prod_DD (S := S) (rowL_app (rowL_rep hs 2) (rowL_rep ht 2)) (rowL_app hs ht)
  have e : formD (repR s 2 ++ repR t 2 ++ (s ++ t)) = formD (swL s t) := by
    refine formD_eq (rowL_app (rowL_app (rowL_rep hs 2) (rowL_rep ht 2)) (rowL_app hs ht)) (swL_row hs ht) ?_
    unfold swL
    simp only [plainL_app, List.append_assoc]
    exact (rep_sq hs).app ((rep_sq ht).app (EqC.refl _))
  rw [e] at e5
  exact def_rt (np := 2) (n := 2) (m := e_swap_two) (ds := [formK b s, formK b' t]) (ρ' := [.val (formK b s), .val (formK b' t)]) rfl (ret_ok (call_ok (cons_ok (cv2 (cv2 (var_ok rfl) c_ok e1) (cv2 (var_ok rfl) c_ok e2) e3) (cons_ok (cv2 (var_ok rfl) (var_ok rfl) e4) nil_ok)) e5))
end
/-- of a tuple of rows -/
def nestL : List Nat → List (List Nat) → List Nat := List.foldl swL
theorem nest_row : ∀ {ss : List (List Nat)} {s : List Nat}, RowL s → (∀ t, t ∈ ss → RowL t) → RowL (nestL s ss)
  | [], s, h, _ => h
  | t :: ss, s, h, h' => nest_row (ss := ss) (swL_row h (h' t (List.mem_cons_self ..))) fun u hu => h' u (List.mem_cons_of_mem _ hu)
section
variable {S : Store} {s : List Nat} {ss : List (List Nat)}
theorem tup_forms {b c : Bool} (h : ∀ t, t ∈ ss → RowL t) (hl : ss.length < 10000000) : m_tupled [sqK b (ss.map (formK c))] S = .ok (.val (.tup (ss.map formD))) S := by
  have := tup_node (b := b) (S := S) (ds := ss.map (formK c)) (n := 7) (reK true true 4) (by rw [List.length_map]; exact hl) fun d hd => by
    obtain ⟨s, hs, rfl⟩ := List.mem_map.mp hd
    rw [form_re, formK_true]
    exact tup_form (n := 3) (h s hs)
  rw [List.map_map] at this
  show i_tupled 8 _ _ = _
  rw [this]
  congr 3
  refine List.map_congr_left fun s hs => ?_
  show reK true true 4 (formK c s) = formD s
  rw [form_re, formK_true]
theorem swap_of_spec {b c : Bool} (h0 : RowL s) (h : ∀ t, t ∈ ss → RowL t) (hl : ss.length < 1000000) : m_swap_of [sqK b ((s :: ss).map (formK c))] S = .ok (.val (formD (nestL s ss))) S := by
  have e1 := tup_forms (S := S) (b := b) (c := c) (ss := s :: ss) (fun t ht => by
    rcases List.mem_cons.mp ht with rfl | ht
    · exact h0
    · exact h t ht) (by rw [List.length_cons]; omega)
  have a1 : sSet 1 (mCall0 m_tupled (mCons (mVar 0) mNil)) [.val (sqK b ((s :: ss).map (formK c))), .un, .un, .un] S = .ok .nx [.val (sqK b ((s :: ss).map (formK c))), .val (.tup ((s :: ss).map formD)), .un, .un] S := set_ok (call_ok (cons_ok (var_ok rfl) nil_ok) e1) (by show 1 < 4; decide)
  have a2 : sSet 2 (M.vl (mOpV dIx (mPk 1) (mK (mC (.int 0))))) [.val (sqK b ((s :: ss).map (formK c))), .val (.tup ((s :: ss).map formD)), .un, .un] S = .ok .nx [.val (sqK b ((s :: ss).map (formK c))), .val (.tup ((s :: ss).map formD)), .val (formD s), .un] S :=
    set_ok (vl_ok (opV_ok (x := .tup ((s :: ss).map formD)) (y := .int 0) (d := formD s) (pk_ok rfl rfl) (mk_ok c_ok) (pg_ok rfl rfl) rfl (by
      rw [List.map_cons]
      unfold dIx
      dsimp only
      first
      | (simp [atD, atI, seqIndex?]; done)
      | rfl))) (by show 2 < 4; decide)
  have a3 : mItA (M.frz (mSl (mPk 1) (mPart (mC (.int 1))) mNoP)) [.val (sqK b ((s :: ss).map (formK c))), .val (.tup ((s :: ss).map formD)), .val (formD s), .un] S = .ok (ss.map formD) [.val (sqK b ((s :: ss).map (formK c))), .val (.tup ((s :: ss).map formD)), .val (formD s), .un] S := by
    refine itA_ok (d := .tup (ss.map formD)) (frz_ok (r := .val (.tup (ss.map formD))) ?_) rfl
    unfold mSl
    rw [b_ok (pk_ok (sl := .val (.tup ((s :: ss).map formD))) rfl rfl)]
    have : dSl (.tup ((s :: ss).map formD)) (some 1) none = some (.val (.tup (ss.map formD))) := by
      unfold dSl dCut
      simp [HT.sIx]
      exact List.take_of_length_le (by rw [List.length_map]; exact Nat.le_refl _)
    have hp : ∀ ρ : Env, mPart (mC (.int 1)) ρ S = .ok (some 1) ρ S := fun _ => rfl
    have hn : ∀ ρ : Env, mNoP ρ S = .ok none ρ S := fun _ => rfl
    try dsimp only
    rw [b_ok (hp _), b_ok (hn _)]
    try dsimp only
    unfold M.look
    rw [pg_ok (sl := .val (.tup ((s :: ss).map formD))) rfl rfl]
    dsimp only
    show M.opt (dSl (.tup ((s :: ss).map formD)) (some 1) none) _ _ = _
    rw [this]
    rfl
  obtain ⟨ρ', S', e, ⟨s3, rfl⟩, rfl⟩ := forL_pre0 (tg := tgN 3) (body := p_swap_of_1) formD (fun q ρ S1 => (∃ s3, ρ = [.val (sqK b ((s :: ss).map (formK c))), .val (.tup ((s :: ss).map formD)), .val (formD (nestL s q)), s3]) ∧ S1 = S) ss
    [.val (sqK b ((s :: ss).map (formK c))), .val (.tup ((s :: ss).map formD)), .val (formD s), .un] S ⟨⟨.un, rfl⟩, rfl⟩ fun q t r hq ρ S1 hI => by
      obtain ⟨⟨s3, rfl⟩, rfl⟩ := hI
      have ht : RowL t := h t (by rw [hq]; simp)
      have hn : RowL (nestL s q) := nest_row h0 fun u hu => h u (by rw [hq]; simp [hu])
      have e1 := swap_two_spec (S := S1) (b := true) (b' := true) hn ht
      rw [formK_true, formK_true] at e1
      refine ⟨[.val (sqK b ((s :: ss).map (formK c))), .val (.tup ((s :: ss).map formD)), .val (formD (nestL s q)), .val (formD t)], S1, .nx, [.val (sqK b ((s :: ss).map (formK c))), .val (.tup ((s :: ss).map formD)), .val (formD (swL (nestL s q) t)), .val (formD t)], S1, rfl, ?_, .inl rfl, ⟨.val (formD t), ?_⟩, rfl⟩
      · exact set_ok (ρ1 := [.val (sqK b ((s :: ss).map (formK c))), .val (.tup ((s :: ss).map formD)), .val (formD (nestL s q)), .val (formD t)]) (r := .val (formD (swL (nestL s q) t))) (call_ok (cons_ok (var_ok rfl) (cons_ok (var_ok rfl) nil_ok)) e1) (by show 2 < 4; decide)
      · unfold nestL
        rw [List.foldl_append]
        rfl
  exact def_rt (np := 1) (n := 4) (m := e_swap_of) (ds := [sqK b ((s :: ss).map (formK c))]) rfl ((seq_nx a1).trans ((seq_nx a2).trans ((seq_nx ((for_ok a3).trans e)).trans (ret_ok (vl_ok (var_ok rfl))))))
end
end Thr
namespace Thr.K24
open PySem PySem.Spec PyProof.Rows L2 RZ Thr

def isTrue0 : FR → Bool
  | .ok (.val (.bl true)) [] => true
  | _ => false
theorem isTrue0_is {x : FR} (h : isTrue0 x = true) : x = .ok (.val (.bl true)) [] := by
  unfold isTrue0 at h
  split at h
  · rfl
  · cases h
theorem by_hand : m__law_by_hand_right [] [] = .ok (.val (.bl true)) [] := by
  unfold m__law_by_hand_right e__law_by_hand_right m__law_form
  rw [lform_ff]
  exact isTrue0_is (by decide +kernel)
theorem right_step {S : Store} {n t : Nat} {s1 s2 s3 s4 s5 s6 s7 s8 : Sl} (h : Bx S n t) (ht : t + 10000 < 1000000000) :
    ∃ s2' s3' s4' s5' s6' s7' s8' S', p__law_right_1 [.val (.cel n), s1, s2, s3, s4, s5, s6, s7, s8] S = .ok .nx [.val (.cel n), s1, s2', s3', s4', s5', s6', s7', s8'] S' ∧ Bx S' n (t + 10000) := by
  obtain ⟨w, S1, e1, hw, hwl, hb1⟩ := row_take (ρ := [.val (.cel n), s1, s2, s3, s4, s5, s6, s7, s8]) (z := 0) (k := 8) (long := 20) h rfl (by omega) (by omega) (by omega) (by omega) (by omega)
  obtain ⟨v, S2, e2, hv, hvl, hb2⟩ := row_take (ρ := [.val (.cel n), s1, s2, s3, s4, s5, s6, s7, s8]) (z := 0) (k := 5) (long := 12) hb1 rfl (by omega) (by omega) (by omega) (by omega) (by omega)
  have q1 := pars2_ok (i := 3) (j := 4) e1 e2 (by show 3 < 9; decide) (by show 4 < 9; decide)
  have c1 := back_spec (S := S2) hv (by omega)
  have l1 := (flip_row hv).2.1
  have c2 := lform_spec (S := S2) hw (by omega)
  have c3 := lform_spec (S := S2) hv (by omega)
  have hr : RowL (backL v ++ w ++ v) := rowL_app (rowL_app (flip_row hv).1 hw) hv
  have hrl : (backL v ++ w ++ v).length < 4000 := by rw [List.length_append, List.length_append]; omega
  have c4 := lform_spec (S := S2) hr hrl
  have c5 := lis_forms (S := S2) (c := false) (k := true) (ss := [w, v]) (n := 3) (fun s hs => by
    simp only [List.mem_cons, List.not_mem_nil, or_false] at hs
    rcases hs with rfl | rfl <;> assumption) (by show 2 < 10000000; decide)
  simp only [List.map_cons, List.map_nil, formK_true] at c5
  have q2 : sPars [5, 6] (rCons (mOp dAdd (mK (M.frz (mOp dAdd (mK (M.frz (mCall0 m__law_back (mCons (mVar 4) mNil)))) (mPk 3)))) (mPk 4)) (rCons (mLst (mCons (M.frz (mCall0 m__law_form (mCons (mVar 3) mNil))) (mCons (M.frz (mCall0 m__law_form (mCons (mVar 4) mNil))) mNil))) rNil)) [.val (.cel n), s1, s2, .val (.str w), .val (.str v), s5, s6, s7, s8] S2 = .ok .nx [.val (.cel n), s1, s2, .val (.str w), .val (.str v), .val (.str (backL v ++ w ++ v)), .own [formD w, formD v], s7, s8] S2 :=
    pars2_ok (i := 5) (j := 6) (op_ok (x := .str (backL v ++ w)) (y := .str v) (d := .val (.str (backL v ++ w ++ v))) (mk_ok (fop_ok (x := .str (backL v)) (y := .str w) (d := .str (backL v ++ w)) (mk_ok (cv1 (var_ok rfl) c1)) (pk_ok rfl rfl) rfl (pg_ok rfl rfl) (add_str (by omega)))) (pk_ok rfl rfl) rfl (pg_ok rfl rfl) (add_str (by rw [List.length_append]; omega)))
      (lst_ok (cons_ok (cv1 (var_ok rfl) c2) (cons_ok (cv1 (var_ok rfl) c3) nil_ok)) (by show 2 ≤ 16777216; decide)) (by show 5 < 9; decide) (by show 6 < 9; decide)
  have q3 : sPars [7, 8] (rCons (mCall0 m__law_lists (mCons (mVar 6) mNil)) (rCons (mCall0 m__law_form (mCons (mVar 5) mNil)) rNil)) [.val (.cel n), s1, s2, .val (.str w), .val (.str v), .val (.str (backL v ++ w ++ v)), .own [formD w, formD v], s7, s8] S2 = .ok .nx [.val (.cel n), s1, s2, .val (.str w), .val (.str v), .val (.str (backL v ++ w ++ v)), .val (.lst [formD w, formD v]), .own [formK false w, formK false v], .val (formD (backL v ++ w ++ v))] S2 :=
    pars2_ok (i := 7) (j := 8) (call_ok (cons_ok (show mVar 6 _ _ = .ok (.lst [formD w, formD v]) [.val (.cel n), s1, s2, .val (.str w), .val (.str v), .val (.str (backL v ++ w ++ v)), .val (.lst [formD w, formD v]), s7, s8] S2 from rfl) nil_ok) c5) (call_ok (cons_ok (var_ok rfl) nil_ok) c4) (by show 7 < 9; decide) (by show 8 < 9; decide)
  have t1 := turned_row_spec (S := S2) hw hv (by omega) (by omega)
  have t2 := turned_form_spec (S := S2) (b := true) (b' := true) hw hv
  rw [formK_true, formK_true] at t2
  have t3 := turned_form_spec (S := S2) (b := false) (b' := false) hw hv
  have ix0 : ∀ a b : D, dIx (.lst [a, b]) (.int 0) = some a := fun a b => rfl
  have ix1 : ∀ a b : D, dIx (.lst [a, b]) (.int 1) = some b := fun a b => rfl
  have q4 : sSet 2 _ [.val (.cel n), s1, s2, .val (.str w), .val (.str v), .val (.str (backL v ++ w ++ v)), .val (.lst [formD w, formD v]), .own [formK false w, formK false v], .val (formD (backL v ++ w ++ v))] S2 = .ok .nx [.val (.cel n), s1, .own [.str (backL v ++ w ++ v), formD (backL v ++ w ++ v), formD (backL v ++ w ++ v), .lst [formK false w, formK false v]], .val (.str w), .val (.str v), .val (.str (backL v ++ w ++ v)), .val (.lst [formD w, formD v]), .val (.lst [formK false w, formK false v]), .val (formD (backL v ++ w ++ v))] S2 :=
    set_ok (lst_ok (cons_ok (cv2 (var_ok (i := 3) rfl) (var_ok (i := 4) rfl) t1) (cons_ok (cv2 (opV_ok (ma := mPk 6) (mb := mK (mC (.int 0))) (f := dIx) (x := .lst [formD w, formD v]) (y := .int 0) (pk_ok rfl rfl) (mk_ok c_ok) (pg_ok rfl rfl) rfl (ix0 _ _)) (opV_ok (ma := mPk 6) (mb := mK (mC (.int 1))) (f := dIx) (x := .lst [formD w, formD v]) (y := .int 1) (pk_ok rfl rfl) (mk_ok c_ok) (pg_ok rfl rfl) rfl (ix1 _ _)) t2)
      (cons_ok (cv2 (opV_ok (ma := mPk 7) (mb := mK (mC (.int 0))) (f := dIx) (x := .lst [formK false w, formK false v]) (y := .int 0) (pk_ok rfl rfl) (mk_ok c_ok) (pg_ok rfl rfl) rfl (ix0 _ _)) (opV_ok (ma := mPk 7) (mb := mK (mC (.int 1))) (f := dIx) (x := .lst [formK false w, formK false v]) (y := .int 1) (pk_ok rfl rfl) (mk_ok c_ok) (pg_ok rfl rfl) rfl (ix1 _ _)) t3)
      (cons_ok (show mVar 7 _ _ = .ok (.lst [formK false w, formK false v]) [.val (.cel n), s1, s2, .val (.str w), .val (.str v), .val (.str (backL v ++ w ++ v)), .val (.lst [formD w, formD v]), .val (.lst [formK false w, formK false v]), .val (formD (backL v ++ w ++ v))] S2 from rfl) nil_ok)))) (by show 4 ≤ 16777216; decide)) (by show 2 < 9; decide)
  have ok : okD 7 (.lst [.str (backL v ++ w ++ v), formD (backL v ++ w ++ v), formD (backL v ++ w ++ v), .lst [formK false w, formK false v]]) = true := by
    have o1 : okD 6 (formD (backL v ++ w ++ v)) = true := okD_form 2 hr
    have o2 : okD 5 (formK false w) = true := okD_formK 2 hw
    have o3 : okD 5 (formK false v) = true := okD_formK 2 hv
    simp [okD, o1, o2, o3, -List.append_assoc]
  have q5 := same_ok 7 _ S2 ok
  have q6 := fails_ok (k := sRet (M.vl (mC (.bl false)))) (cons_ok (own_var (ρ := [.val (.cel n), s1, .own [.str (backL v ++ w ++ v), formD (backL v ++ w ++ v), formD (backL v ++ w ++ v), .lst [formK false w, formK false v]], .val (.str w), .val (.str v), .val (.str (backL v ++ w ++ v)), .val (.lst [formD w, formD v]), .val (.lst [formK false w, formK false v]), .val (formD (backL v ++ w ++ v))]) (i := 2) (S := S2) rfl)
    (cons_ok (own_ok (lst_ok (cons_ok (var_ok (i := 5) rfl) (cons_ok (var_ok (i := 8) rfl) (cons_ok (var_ok (i := 8) rfl) (cons_ok (own_ok (call_ok (cons_ok (var_ok (i := 6) rfl) nil_ok) c5)) nil_ok)))) (by show 4 ≤ 16777216; decide))) nil_ok)) q5
  unfold p__law_right_1
  exact ⟨_, _, _, _, _, _, _, S2, (seq_nx q1).trans ((seq_nx q2).trans ((seq_nx q3).trans ((seq_nx q4).trans q6))), hb2.mono (by omega)⟩
theorem right_spec {S : Store} {n : Nat} (h : Bx S n 0) : ∃ S', m__law_right [.cel n] S = .ok (.val (.bl true)) S' ∧ S'.all flatC = true := by
  obtain ⟨ρ', S', e, s1, s2, s3, s4, s5, s6, s7, s8, rfl, hb⟩ := forL_inv (tg := tgN 1) (body := p__law_right_1) (fun i ρ S1 => ∃ s1 s2 s3 s4 s5 s6 s7 s8 : Sl, ρ = [.val (.cel n), s1, s2, s3, s4, s5, s6, s7, s8] ∧ Bx S1 n (10000 * i)) (rng 0 8) 0 [.val (.cel n), .un, .un, .un, .un, .un, .un, .un, .un] S ⟨.un, .un, .un, .un, .un, .un, .un, .un, rfl, h⟩ (by
    rintro i d ρ S1 hi ⟨s1, s2, s3, s4, s5, s6, s7, s8, rfl, hb⟩
    obtain ⟨hin, rfl⟩ := rng_at hi
    obtain ⟨s2', s3', s4', s5', s6', s7', s8', S', e, hb'⟩ := right_step (s1 := .val (.int (i : Nat))) (s2 := s2) (s3 := s3) (s4 := s4) (s5 := s5) (s6 := s6) (s7 := s7) (s8 := s8) hb (by omega)
    exact ⟨_, S1, .nx, _, S', rfl, e, .inl rfl, _, _, _, _, _, _, _, _, rfl, hb'.mono (by omega)⟩)
  refine ⟨S', ?_, hb.flat⟩
  have e2 : sFor (mRng1 (mCons (mC (.int 8)) mNil)) (tgN 1) p__law_right_1 [.val (.cel n), .un, .un, .un, .un, .un, .un, .un, .un] S = .ok .nx [.val (.cel n), s1, s2, s3, s4, s5, s6, s7, s8] S' := by
    rw [for_ok (ds := rng 0 8) (ρ1 := [.val (.cel n), .un, .un, .un, .un, .un, .un, .un, .un]) (S1 := S)]
    · exact e
    · rfl
  unfold m__law_right
  exact def_rt (r := .val (.bl true)) rfl ((seq_nx e2).trans (ret_ok (vl_ok c_ok)))
theorem plain (ns : List Int) (h : ns.length ≤ 63) (hb : Bits ns) : ∃ S, m_law [.rol (ns.map D.int)] [] = .ok (.val (.bl true)) S :=
  law_gen (bh := m__law_by_hand_right) (rt := m__law_right) (bx := m__law_box) (most := 3) (off := 34818) (by omega) (by omega) by_hand rfl (by omega) (by omega) (fun S n h => right_spec h) ns
end Thr.K24
open PySem PySem.W PyProof.Rows in
set_option maxRecDepth 100000 in
set_option maxHeartbeats 0 in
theorem PySem.Challenge.cw_thricenothing_k24_turned_rows_holds : PySem.Challenge.rw_thricenothing_k24_turned_rows.Holds := by
  w_on; o_law; k_head; (case hw => w_witness2)
  k_fill
  refine Thr.law_walk (l := PySem.Challenge.rw_thricenothing_k24_turned_rows) (m := Thr.K24.m_law) (k := 13) (x := "_law_script") rfl rfl ⟨rfl, by decide, by decide⟩ (fun w h Y => PySem.W.kIn_of Y) ?F Thr.K24.plain
  case F =>
    intro w mg fa h KX G hmg
    refine' Thr.K24.law_mk KX G hmg ?a1 ?l1 ?c1 ?k1 ?a2 ?l2 ?c2 ?k2 ?a3 ?l3 ?c3 ?k3 ?a4 ?l4 ?c4 ?k4 ?a5 ?l5 ?c5 ?k5 ?a6 ?l6 ?c6 ?k6 ?a7 ?l7 ?c7 ?k7 ?a8 ?l8 ?c8 ?k8 ?a9 ?l9 ?c9 ?k9 ?a10 ?l10 ?c10 ?k10 ?a11 ?l11 ?c11 ?k11 ?a12 ?l12 ?c12 ?k12 ?a13 ?l13 ?c13 ?k13 ?a14 ?l14 ?c14 ?k14 ?a15 ?l15 ?c15 ?k15 ?a16 ?l16 ?c16 ?k16 ?a17 ?l17 ?c17 ?k17 ?a18 ?l18 ?c18 ?k18 ?a19 ?l19 ?c19 ?k19 ?a20 ?l20 ?c20 ?k20 ?a21 ?l21 ?c21 ?k21 ?a22 ?l22 ?c22 ?k22 ?a23 ?l23 ?c23 ?k23 ?a24 ?l24 ?c24 ?k24 ?a25 ?l25 ?c25 ?k25 ?a26 ?l26 ?c26 ?k26 ?a27 ?l27 ?c27 ?k27 ?z_abs ?z_all ?z_bool ?z_enumerate ?z_int ?z_isinstance ?z_len ?z_list ?z_range ?z_set ?z_sorted ?z_str ?z_tuple ?z_zip ?g_NOTHING ?q1_NOTHING ?q2_NOTHING ?q3_NOTHING ?q4_NOTHING ?g_LETTERS ?g_THREE ?g_TWICE
    (case a1 => k_is)
    (case l1 => k_is)
    (case c1 => k_is)
    (case k1 => k_is)
    (case a2 => k_is)
    (case l2 => k_is)
    (case c2 => k_is)
    (case k2 => k_is)
    (case a3 => k_is)
    (case l3 => k_is)
    (case c3 => k_is)
    (case k3 => k_is)
    (case a4 => k_is)
    (case l4 => k_is)
    (case c4 => k_is)
    (case k4 => k_is)
    (case a5 => k_is)
    (case l5 => k_is)
    (case c5 => k_is)
    (case k5 => k_is)
    (case a6 => k_is)
    (case l6 => k_is)
    (case c6 => k_is)
    (case k6 => k_is)
    (case a7 => k_is)
    (case l7 => k_is)
    (case c7 => k_is)
    (case k7 => k_is)
    (case a8 => k_is)
    (case l8 => k_is)
    (case c8 => k_is)
    (case k8 => k_is)
    (case a9 => k_is)
    (case l9 => k_is)
    (case c9 => k_is)
    (case k9 => k_is)
    (case a10 => k_is)
    (case l10 => k_is)
    (case c10 => k_is)
    (case k10 => k_is)
    (case a11 => k_is)
    (case l11 => k_is)
    (case c11 => k_is)
    (case k11 => k_is)
    (case a12 => k_is)
    (case l12 => k_is)
    (case c12 => k_is)
    (case k12 => k_is)
    (case a13 => k_is)
    (case l13 => k_is)
    (case c13 => k_is)
    (case k13 => k_is)
    (case a14 => k_is)
    (case l14 => k_is)
    (case c14 => k_is)
    (case k14 => k_is)
    (case a15 => k_is)
    (case l15 => k_is)
    (case c15 => k_is)
    (case k15 => k_is)
    (case a16 => k_is)
    (case l16 => k_is)
    (case c16 => k_is)
    (case k16 => k_is)
    (case a17 => k_is)
    (case l17 => k_is)
    (case c17 => k_is)
    (case k17 => k_is)
    (case a18 => k_is)
    (case l18 => k_is)
    (case c18 => k_is)
    (case k18 => k_is)
    (case a19 => k_is)
    (case l19 => k_is)
    (case c19 => k_is)
    (case k19 => k_is)
    (case a20 => k_is)
    (case l20 => k_is)
    (case c20 => k_is)
    (case k20 => k_is)
    (case a21 => k_is)
    (case l21 => k_is)
    (case c21 => k_is)
    (case k21 => k_is)
    (case a22 => k_is)
    (case l22 => k_is)
    (case c22 => k_is)
    (case k22 => k_is)
    (case a23 => k_is)
    (case l23 => k_is)
    (case c23 => k_is)
    (case k23 => k_is)
    (case a24 => k_is)
    (case l24 => k_is)
    (case c24 => k_is)
    (case k24 => k_is)
    (case a25 => k_is)
    (case l25 => k_is)
    (case c25 => k_is)
    (case k25 => k_is)
    (case a26 => k_is)
    (case l26 => k_is)
    (case c26 => k_is)
    (case k26 => k_is)
    (case a27 => k_is)
    (case l27 => k_is)
    (case c27 => k_is)
    (case k27 => k_is)
    (case z_abs => k_is)
    (case z_all => k_is)
    (case z_bool => k_is)
    (case z_enumerate => k_is)
    (case z_int => k_is)
    (case z_isinstance => k_is)
    (case z_len => k_is)
    (case z_list => k_is)
    (case z_range => k_is)
    (case z_set => k_is)
    (case z_sorted => k_is)
    (case z_str => k_is)
    (case z_tuple => k_is)
    (case z_zip => k_is)
    (case g_NOTHING => k_is)
    (case q1_NOTHING => k_is)
    (case q2_NOTHING => k_is)
    (case q3_NOTHING => k_is)
    (case q4_NOTHING => k_is)
    (case g_LETTERS => k_is)
    (case g_THREE => k_is)
    (case g_TWICE => k_is)

