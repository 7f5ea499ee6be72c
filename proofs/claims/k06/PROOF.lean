import PyProof.Rows.All
import HandS.ForMost
import HandS.Star
import HandS.Wide
import HandS.Exc
import HandS.Deep
import HandS.IsInst
import HandS.Conv
import HandS.ExcOwn
import HandS.CallSlots
import KE.GoesMore
import HandS.Iter
import HandS.NoneIn
import HandS.Dict
import HandS.Style
import HandS.Text
import HandS.ExcInit
import HandS.ExcField
import HandS.TryMany
import HandS.Defaults
import HandS.HeadHook2
import HandS.Head0
import HandS.Head1
import HandS.Head2
import HandS.HeadEnd
import HandS.Words
import HandS.WordsExc
import PySem.Challenge.RW_gridcodes_k06_pictures
section
set_option Elab.async false
set_option linter.all false
set_option maxRecDepth 100000
/-! values as trees, a small store of live cells, the interpreter's monad, and how trees lie in the abstract heap -/
namespace Gc
open PySem L2

inductive D where
  | non | bl (b : Bool) | int (i : Int) | str (x : Str)
  | lst (xs : List D) | tup (xs : List D)
  | dK (ks : List Key) (xs : List D) | dT (ks : List (List Key)) (xs : List D)
  | obj (c : Nat) (ns : List Str) (xs : List D)
  | ref (n : Nat) | scr (ns : List Int)
  | fn (f : Nat)
  | exc
  deriving Inhabited

/-- the interpreter's state: the slots of the frame, the cells -/
structure MS where
  τ : List (Option D)
  S : List (Option D)
inductive Rs (α : Type) where
  | ok (a : α) (s : MS)
  | exn (c : Nat) (ns : List Str) (xs : List D) (s : MS)
  | bad
def M (α : Type) := MS → Rs α
@[reducible] def M.pure {α : Type} (a : α) : M α := fun s => .ok a s
@[reducible] def M.bind {α β : Type} (m : M α) (f : α → M β) : M β := fun s => match m s with
  | .ok a s' => f a s'
  | .exn c ns xs s' => .exn c ns xs s'
  | .bad => .bad
instance : Monad M where
  pure := M.pure
  bind := M.bind
def bad {α : Type} : M α := fun _ => .bad
def liftO {α : Type} (o : Option α) : M α := fun s => match o with | some a => .ok a s | none => .bad
def getS : M MS := fun s => .ok s s
def setS (s : MS) : M Unit := fun _ => .ok () s

/-! ### representation -/
/-- a live cell's address -/
def Live (ρ : Nat → Addr) (S : List (Option D)) (a : Addr) : Prop := ∃ n xs, S[n]? = some (some xs) ∧ ρ n = a

/-- where the classes lie; the exception that is handled: its dict, the attributes -/
structure CL where
  f : Nat → Addr
  Z : Option (Addr × List Str × List D) := none
  ea : Option Addr := none
  /-- where the defs lie -/
  fa : Nat → Addr := fun _ => 0
instance : CoeFun CL fun _ => Nat → Addr := ⟨CL.f⟩
structure RC where
  K : PySem.W.Frag
  cl : CL
  ρ : Nat → Addr
  S : List (Option D)
  X : List Addr
  H : Hp
/-- a list of the written part -/
def KLs (K : PySem.W.Frag) (a : Addr) (xs : List V) : Prop := ∃ (o : Obj) (its : Array Value) (n : Nat), K.lookup a = some o ∧ o.cls = .type "list" ∧ o.dict = none ∧ o.data = .seq its n ∧ its.size ≤ sizeLine ∧ Vals xs its.toList
/-- neither a live cell nor a list that is being made -/
abbrev RC.NL (R : RC) (a : Addr) : Prop := ¬ Live R.ρ R.S a ∧ a ∉ R.X

mutual
def Rep (R : RC) : V → D → Prop
  | v, .non => v = .non
  | v, .bl b => v = .bl b
  | v, .int i => v = .int i
  | v, .str x => v = .str x
  | v, .lst xs => ∃ a vs, v = .ref a ∧ R.H a = some (.lst vs) ∧ R.NL a ∧ RepL R vs xs
  | v, .tup xs => ∃ a vs, v = .ref a ∧ R.H a = some (.tup vs) ∧ R.NL a ∧ RepL R vs xs
  | v, .dK ks xs => ∃ a kvs, v = .ref a ∧ R.H a = some (.dK kvs) ∧ R.NL a ∧ kvs.map (·.1) = ks ∧ RepL R (kvs.map (·.2)) xs
  | v, .dT ks xs => ∃ a kvs, v = .ref a ∧ R.H a = some (.dT kvs) ∧ R.NL a ∧ kvs.map (·.1) = ks ∧ RepL R (kvs.map (·.2)) xs
  | v, .obj c ns xs => ∃ a dx fs, v = .ref a ∧ R.H a = some (.ins (R.cl c) dx fs) ∧ R.NL a ∧ fs.map (·.1) = ns ∧ RepL R (fs.map (·.2)) xs
  | v, .ref n => v = .ref (R.ρ n) ∧ n < R.S.length
  | v, .scr ns => ∃ a, v = .ref a ∧ ((∃ o, R.H a = some (.frz o (.lst (ns.map V.int))) ∧ R.NL a) ∨ KLs R.K a (ns.map V.int))
  | v, .fn f => v = .ref (R.cl.fa f)
  | _, .exc => False
def RepL (R : RC) : List V → List D → Prop
  | vs, [] => vs = []
  | vs, d :: ds => ∃ v r, vs = v :: r ∧ Rep R v d ∧ RepL R r ds
end

/-- R' comes after R -/
structure Ext (R R' : RC) : Prop where
  K : R'.K = R.K
  cl : R'.cl = R.cl
  X : R'.X = R.X
  hp : ∀ a o, R.H a = some o → ¬ Live R.ρ R.S a → R'.H a = some o ∧ ¬ Live R'.ρ R'.S a
  len : R.S.length ≤ R'.S.length
  rho : ∀ n, n < R.S.length → R'.ρ n = R.ρ n
theorem Ext.refl (R : RC) : Ext R R := ⟨rfl, rfl, rfl, fun _ _ h n => ⟨h, n⟩, Nat.le_refl _, fun _ _ => rfl⟩
theorem Ext.trans {R R1 R2 : RC} (a : Ext R R1) (b : Ext R1 R2) : Ext R R2 :=
  ⟨b.K.trans a.K, b.cl.trans a.cl, b.X.trans a.X, fun c o h n => let ⟨h1, n1⟩ := a.hp c o h n; b.hp c o h1 n1, Nat.le_trans a.len b.len, fun n hn => (b.rho n (Nat.lt_of_lt_of_le hn a.len)).trans (a.rho n hn)⟩
/-- the weaker step by which what is represented goes on -/
structure Go (R R' : RC) : Prop where
  K : R'.K = R.K
  cl : R'.cl = R.cl
  hp : ∀ a o, R.H a = some o → R.NL a → R'.H a = some o ∧ R'.NL a
  len : R.S.length ≤ R'.S.length
  rho : ∀ n, n < R.S.length → R'.ρ n = R.ρ n
theorem Ext.go {R R' : RC} (x : Ext R R') : Go R R' := ⟨x.K, x.cl, fun a o h n => ⟨(x.hp a o h n.1).1, (x.hp a o h n.1).2, by rw [x.X]; exact n.2⟩, x.len, x.rho⟩

mutual
theorem Rep.go {R R' : RC} (x : Go R R') : ∀ (d : D) (v : V), Rep R v d → Rep R' v d
  | .non, _, h => h
  | .bl _, _, h => h
  | .int _, _, h => h
  | .str _, _, h => h
  | .lst xs, v, h => by
    unfold Rep at h ⊢
    obtain ⟨a, vs, e, hh, n, r⟩ := h
    exact ⟨a, vs, e, (x.hp _ _ hh n).1, (x.hp _ _ hh n).2, RepL.go x xs vs r⟩
  | .tup xs, v, h => by
    unfold Rep at h ⊢
    obtain ⟨a, vs, e, hh, n, r⟩ := h
    exact ⟨a, vs, e, (x.hp _ _ hh n).1, (x.hp _ _ hh n).2, RepL.go x xs vs r⟩
  | .dK ks xs, v, h => by
    unfold Rep at h ⊢
    obtain ⟨a, vs, e, hh, n, q, r⟩ := h
    exact ⟨a, vs, e, (x.hp _ _ hh n).1, (x.hp _ _ hh n).2, q, RepL.go x xs _ r⟩
  | .dT ks xs, v, h => by
    unfold Rep at h ⊢
    obtain ⟨a, vs, e, hh, n, q, r⟩ := h
    exact ⟨a, vs, e, (x.hp _ _ hh n).1, (x.hp _ _ hh n).2, q, RepL.go x xs _ r⟩
  | .obj c ns xs, v, h => by
    unfold Rep at h ⊢
    obtain ⟨a, dx, fs, e, hh, n, q, r⟩ := h
    rw [x.cl]
    exact ⟨a, dx, fs, e, (x.hp _ _ hh n).1, (x.hp _ _ hh n).2, q, RepL.go x xs _ r⟩
  | .ref n, v, h => by
    unfold Rep at h ⊢
    obtain ⟨e, hn⟩ := h
    exact ⟨by rw [x.rho n hn]; exact e, Nat.lt_of_lt_of_le hn x.len⟩
  | .scr ns, v, h => by
    unfold Rep at h ⊢
    obtain ⟨a, e, ⟨o, hh, n⟩ | q⟩ := h
    · exact ⟨a, e, .inl ⟨o, (x.hp _ _ hh n).1, (x.hp _ _ hh n).2⟩⟩
    · exact ⟨a, e, .inr (by rw [x.K]; exact q)⟩
  | .fn f, v, h => by
    unfold Rep at h ⊢
    rw [x.cl]
    exact h
  | .exc, v, h => by unfold Rep at h; exact h.elim
theorem RepL.go {R R' : RC} (x : Go R R') : ∀ (ds : List D) (vs : List V), RepL R vs ds → RepL R' vs ds
  | [], _, h => h
  | d :: ds, vs, h => by
    unfold RepL at h ⊢
    obtain ⟨v, r, e, h1, h2⟩ := h
    exact ⟨v, r, e, Rep.go x d v h1, RepL.go x ds r h2⟩
end

theorem Rep.ext {R R' : RC} (x : Ext R R') {d : D} {v : V} (h : Rep R v d) : Rep R' v d := Rep.go x.go d v h
theorem RepL.ext {R R' : RC} (x : Ext R R') {ds : List D} {vs : List V} (h : RepL R vs ds) : RepL R' vs ds := RepL.go x.go ds vs h

/-- what a container holds -/
def RepH (R : RC) (o : HO) : D → Prop
  | .lst xs => ∃ vs, o = .lst vs ∧ RepL R vs xs
  | .dK ks xs => ∃ kvs, o = .dK kvs ∧ kvs.map (·.1) = ks ∧ RepL R (kvs.map (·.2)) xs
  | .dT ks xs => ∃ kvs, o = .dT kvs ∧ kvs.map (·.1) = ks ∧ RepL R (kvs.map (·.2)) xs
  | .obj c ns xs => ∃ dx fs, o = .ins (R.cl c) dx fs ∧ fs.map (·.1) = ns ∧ RepL R (fs.map (·.2)) xs
  | _ => False
theorem RepH.go {R R' : RC} (x : Go R R') {o : HO} : ∀ {d : D}, RepH R o d → RepH R' o d
  | .lst xs, ⟨vs, e, r⟩ => ⟨vs, e, RepL.go x _ _ r⟩
  | .dK ks xs, ⟨vs, e, q, r⟩ => ⟨vs, e, q, RepL.go x _ _ r⟩
  | .dT ks xs, ⟨vs, e, q, r⟩ => ⟨vs, e, q, RepL.go x _ _ r⟩
  | .obj c ns xs, ⟨dx, fs, e, q, r⟩ => ⟨dx, fs, by rw [x.cl]; exact e, q, RepL.go x _ _ r⟩
/-- a container at an address that stays -/
theorem Rep.of_H {R : RC} {o : HO} {a : Addr} (h : R.H a = some o) (n : R.NL a) : ∀ {d : D}, RepH R o d → Rep R (.ref a) d
  | .lst xs, ⟨vs, e, r⟩ => by subst e; unfold Rep; exact ⟨a, vs, rfl, h, n, r⟩
  | .dK ks xs, ⟨vs, e, q, r⟩ => by subst e; unfold Rep; exact ⟨a, vs, rfl, h, n, q, r⟩
  | .dT ks xs, ⟨vs, e, q, r⟩ => by subst e; unfold Rep; exact ⟨a, vs, rfl, h, n, q, r⟩
  | .obj c ns xs, ⟨dx, fs, e, q, r⟩ => by subst e; unfold Rep; exact ⟨a, dx, fs, rfl, h, n, q, r⟩
def mutH : HO → Bool
  | .lst _ | .dK _ | .dT _ | .ins _ _ _ => true
  | _ => false
theorem RepH.mut {R : RC} {o : HO} : ∀ {d : D}, RepH R o d → mutH o = true
  | .lst xs, ⟨vs, e, r⟩ => by subst e; rfl
  | .dK ks xs, ⟨vs, e, q, r⟩ => by subst e; rfl
  | .dT ks xs, ⟨vs, e, q, r⟩ => by subst e; rfl
  | .obj c ns xs, ⟨dx, fs, e, q, r⟩ => by subst e; rfl

/-- the handled exception's dict -/
def ZOk (R : RC) : Prop := ∀ d ns xs, R.cl.Z = some (d, ns, xs) → ∃ fs : List (Str × V), R.H d = some (.xd fs) ∧ R.NL d ∧ fs.map (·.1) = ns ∧ RepL R (fs.map (·.2)) xs
theorem ZOk.go {R R' : RC} (x : Go R R') (h : ZOk R) : ZOk R' := fun d ns xs e => by
  rw [x.cl] at e
  obtain ⟨fs, h1, h2, h3, h4⟩ := h d ns xs e
  exact ⟨fs, (x.hp _ _ h1 h2).1, (x.hp _ _ h1 h2).2, h3, RepL.go x _ _ h4⟩
/-- the cells are held -/
structure Cells (R : RC) : Prop where
  cell : ∀ (n : Nat) (d : D), R.S[n]? = some (some d) → ∃ o, R.H (R.ρ n) = some o ∧ RepH R o d
  inj : ∀ (m n : Nat) (d e : D), R.S[m]? = some (some d) → R.S[n]? = some (some e) → R.ρ m = R.ρ n → m = n
  out : ∀ (n : Nat) (d : D), R.S[n]? = some (some d) → R.ρ n ∉ R.X
  dom : ∀ a ∈ R.X, ∃ o, R.H a = some o
  zok : ZOk R
/-- the slots -/
def SRep (R : RC) (v : V) (d : D) : Prop := Rep R v d ∨ (d = .exc ∧ ∃ a, R.cl.ea = some a ∧ v = .ref a)
theorem SRep.go {R R' : RC} (x : Go R R') {v : V} {d : D} (h : SRep R v d) : SRep R' v d := h.elim (fun h => .inl (Rep.go x d v h)) fun h => .inr (by rw [x.cl]; exact h)
def Slots (R : RC) (σ : St) (τ : List (Option D)) : Prop := σ.length = τ.length ∧ ∀ (i : Nat) (d : D), τ[i]? = some (some d) → ∃ v, σ[i]? = some (some v) ∧ SRep R v d
theorem Slots.go {R R' : RC} {σ : St} {τ : List (Option D)} (x : Go R R') (h : Slots R σ τ) : Slots R' σ τ :=
  ⟨h.1, fun i d e => let ⟨v, h1, h2⟩ := h.2 i d e; ⟨v, h1, SRep.go x h2⟩⟩
theorem Slots.ext {R R' : RC} {σ : St} {τ : List (Option D)} (x : Ext R R') (h : Slots R σ τ) : Slots R' σ τ := h.go x.go
theorem Slots.set {R : RC} {σ : St} {τ : List (Option D)} {i : Nat} {v : V} {d : D} (h : Slots R σ τ) (r : Rep R v d) : Slots R (σ.set i (some v)) (τ.set i (some d)) := by
  refine ⟨by rw [List.length_set, List.length_set]; exact h.1, fun j e q => ?_⟩
  by_cases hj : i = j
  · subst hj
    by_cases hi : i < τ.length
    · rw [List.getElem?_set_self hi] at q
      cases q
      exact ⟨v, by rw [List.getElem?_set_self (by rw [h.1]; exact hi)], .inl r⟩
    · rw [List.getElem?_eq_none (by simpa using hi)] at q
      cases q
  · rw [List.getElem?_set_ne hj] at q ⊢
    exact h.2 j e q

theorem Cells.nlive {R : RC} (c : Cells R) {p : Addr} (hp : R.H p = none) : ¬ Live R.ρ R.S p := fun ⟨n, xs, e, q⟩ => by
  obtain ⟨o, h, _⟩ := c.cell n xs e
  rw [q, hp] at h
  cases h
/-- a new object that no cell is -/
theorem Cells.nl {R : RC} (c : Cells R) {p : Addr} (hp : R.H p = none) : R.NL p := ⟨c.nlive hp, fun z => by
  obtain ⟨o, h⟩ := c.dom p z
  rw [hp] at h
  cases h⟩
def RC.upd (R : RC) (p : Addr) (o : HO) : RC := { R with H := L2.upd R.H p o }
theorem Ext.new {R : RC} {p : Addr} {o : HO} (hp : R.H p = none) : Ext R (R.upd p o) :=
  ⟨rfl, rfl, rfl, fun a u h n => ⟨by
    show L2.upd R.H p o a = some u
    rw [upd_ne (ne_of_none h hp)]
    exact h, n⟩, Nat.le_refl _, fun _ _ => rfl⟩
theorem Cells.new {R : RC} (c : Cells R) {p : Addr} {o : HO} (hp : R.H p = none) : Cells (R.upd p o) := by
  refine ⟨fun n xs e => ?_, c.inj, c.out, fun a ha => ?_, ZOk.go (Ext.new hp).go c.zok⟩
  · obtain ⟨u, h, r⟩ := c.cell n xs e
    refine ⟨u, ?_, RepH.go (Ext.new hp).go r⟩
    show L2.upd R.H p o (R.ρ n) = some u
    rw [upd_ne (ne_of_none h hp)]
    exact h
  · obtain ⟨u, h⟩ := c.dom a ha
    exact ⟨u, by show L2.upd R.H p o a = some u; rw [upd_ne (ne_of_none h hp)]; exact h⟩

/-- a new cell -/
def RC.cellNew (R : RC) (p : Addr) (o : HO) (d : D) : RC :=
  { R with H := L2.upd R.H p o, ρ := fun n => if n = R.S.length then p else R.ρ n, S := R.S ++ [some d] }
theorem Ext.cellNew {R : RC} {p : Addr} {o : HO} {d : D} (hp : R.H p = none) : Ext R (R.cellNew p o d) := by
  refine ⟨rfl, rfl, rfl, fun a u h n => ⟨?_, ?_⟩, ?_, fun n hn => ?_⟩
  · show L2.upd R.H p o a = some u
    rw [upd_ne (ne_of_none h hp)]
    exact h
  · rintro ⟨m, ys, e, q⟩
    have e : (R.S ++ [some d])[m]? = some (some ys) := e
    have q : (if m = R.S.length then p else R.ρ m) = a := q
    by_cases hm : m = R.S.length
    · rw [if_pos hm] at q
      rw [← q, hp] at h
      cases h
    · rw [if_neg hm] at q
      by_cases hlt : m < R.S.length
      · rw [List.getElem?_append_left hlt] at e
        exact n ⟨m, ys, e, q⟩
      · rw [List.getElem?_eq_none (by rw [List.length_append]; show R.S.length + 1 ≤ m; omega)] at e
        cases e
  · show R.S.length ≤ (R.S ++ [some d]).length
    rw [List.length_append]
    omega
  · show (if n = R.S.length then p else R.ρ n) = R.ρ n
    rw [if_neg (by omega)]
theorem Cells.cellNew {R : RC} (c : Cells R) {p : Addr} {o : HO} {d : D} (hp : R.H p = none) (r : RepH R o d) : Cells (R.cellNew p o d) := by
  have x := Ext.cellNew (o := o) (d := d) hp
  have old : ∀ (n : Nat) ys, (R.S ++ [some d])[n]? = some (some ys) → (n < R.S.length ∧ R.S[n]? = some (some ys)) ∨ (n = R.S.length ∧ ys = d) := fun n ys e => by
    by_cases hlt : n < R.S.length
    · rw [List.getElem?_append_left hlt] at e
      exact .inl ⟨hlt, e⟩
    · by_cases hn : n = R.S.length
      · subst hn
        rw [List.getElem?_append_right (Nat.le_refl _), Nat.sub_self] at e
        cases e
        exact .inr ⟨rfl, rfl⟩
      · rw [List.getElem?_eq_none (by rw [List.length_append]; show R.S.length + 1 ≤ n; omega)] at e
        cases e
  refine ⟨fun n ys e => ?_, fun m n ys zs e1 e2 q => ?_, fun n ys e => ?_, fun a ha => ?_, ZOk.go x.go c.zok⟩
  · rcases old n ys e with ⟨hlt, e⟩ | ⟨hn, hy⟩
    · obtain ⟨u, h, rr⟩ := c.cell n ys e
      refine ⟨u, ?_, RepH.go x.go rr⟩
      show L2.upd R.H p o (if n = R.S.length then p else R.ρ n) = some u
      rw [if_neg (by omega), upd_ne (ne_of_none h hp)]
      exact h
    · subst hn; subst hy
      refine ⟨o, ?_, RepH.go x.go r⟩
      show L2.upd R.H p o (if R.S.length = R.S.length then p else R.ρ _) = some o
      rw [if_pos rfl, upd_same]
  · have q : (if m = R.S.length then p else R.ρ m) = (if n = R.S.length then p else R.ρ n) := q
    have nop : ∀ (n : Nat) zs, R.S[n]? = some (some zs) → R.ρ n ≠ p := fun n zs e z => by
      obtain ⟨ws, h, _⟩ := c.cell n zs e
      rw [z, hp] at h
      cases h
    rcases old m ys e1 with ⟨h1, e1⟩ | ⟨h1, _⟩ <;> rcases old n zs e2 with ⟨h2, e2⟩ | ⟨h2, _⟩
    · rw [if_neg (by omega), if_neg (by omega)] at q
      exact c.inj m n ys zs e1 e2 q
    · rw [if_neg (by omega), if_pos h2] at q
      exact absurd q (nop m ys e1)
    · rw [if_pos h1, if_neg (by omega)] at q
      exact absurd q.symm (nop n zs e2)
    · omega
  · show (if n = R.S.length then p else R.ρ n) ∉ R.X
    rcases old n ys e with ⟨hlt, e⟩ | ⟨hn, hy⟩
    · rw [if_neg (by omega)]
      exact c.out n ys e
    · rw [if_pos hn]
      exact (c.nl hp).2
  · obtain ⟨u, h⟩ := c.dom a ha
    exact ⟨u, by show L2.upd R.H p o a = some u; rw [upd_ne (ne_of_none h hp)]; exact h⟩
theorem Rep.cellNew {R : RC} {p : Addr} {o : HO} {d : D} : Rep (R.cellNew p o d) (.ref p) (.ref R.S.length) := by
  unfold Rep
  refine ⟨?_, ?_⟩
  · show V.ref p = V.ref (if R.S.length = R.S.length then p else R.ρ _)
    rw [if_pos rfl]
  · show R.S.length < (R.S ++ [some d]).length
    rw [List.length_append]
    show R.S.length < R.S.length + 1
    omega

/-- a cell is written -/
def RC.cellSet (R : RC) (n : Nat) (o : HO) (d : D) : RC := { R with H := L2.upd R.H (R.ρ n) o, S := R.S.set n (some d) }
theorem live_set {ρ : Nat → Addr} {S : List (Option D)} {n : Nat} {d e : D} (h : S[n]? = some (some e)) {a : Addr} : Live ρ (S.set n (some d)) a ↔ Live ρ S a := by
  have hn : n < S.length := (List.getElem?_eq_some_iff.mp h).1
  constructor
  · rintro ⟨m, zs, h', q⟩
    by_cases hm : n = m
    · subst hm; exact ⟨n, e, h, q⟩
    · rw [List.getElem?_set_ne hm] at h'
      exact ⟨m, zs, h', q⟩
  · rintro ⟨m, zs, h', q⟩
    by_cases hm : n = m
    · subst hm; exact ⟨n, d, List.getElem?_set_self hn, q⟩
    · exact ⟨m, zs, by rw [List.getElem?_set_ne hm]; exact h', q⟩
theorem Ext.cellSet {R : RC} {n : Nat} {o : HO} {d e : D} (h : R.S[n]? = some (some e)) : Ext R (R.cellSet n o d) := by
  refine ⟨rfl, rfl, rfl, fun a u h' nl => ⟨?_, fun z => nl ((live_set h).mp z)⟩, ?_, fun _ _ => rfl⟩
  · show L2.upd R.H (R.ρ n) o a = some u
    rw [upd_ne (fun z => nl ⟨n, e, h, z.symm⟩)]
    exact h'
  · show R.S.length ≤ (R.S.set n (some d)).length
    rw [List.length_set]
    exact Nat.le_refl _
theorem set_there {S : List (Option D)} {n m : Nat} {x : Option D} {z : D} (hn : n < S.length) (h : (S.set n x)[m]? = some (some z)) : (m = n ∧ x = some z) ∨ (m ≠ n ∧ S[m]? = some (some z)) := by
  by_cases hm : n = m
  · subst hm
    rw [List.getElem?_set_self hn] at h
    exact .inl ⟨rfl, Option.some.inj h⟩
  · rw [List.getElem?_set_ne hm] at h
    exact .inr ⟨fun z => hm z.symm, h⟩
theorem Cells.cellSet {R : RC} (c : Cells R) {n : Nat} {o : HO} {d e : D} (h : R.S[n]? = some (some e)) (r : RepH R o d) : Cells (R.cellSet n o d) := by
  have x := Ext.cellSet (o := o) (d := d) h
  have hn : n < R.S.length := (List.getElem?_eq_some_iff.mp h).1
  have was : ∀ (m : Nat) zs, (R.S.set n (some d))[m]? = some (some zs) → ∃ z1, R.S[m]? = some (some z1) := fun m zs h1 => by
    rcases set_there hn h1 with ⟨hm, _⟩ | ⟨_, h'⟩
    · exact ⟨e, by rw [hm]; exact h⟩
    · exact ⟨_, h'⟩
  refine ⟨fun m zs h' => ?_, fun m m' zs zs' h1 h2 q => ?_, fun m zs h' => ?_, fun a ha => ?_, ZOk.go x.go c.zok⟩
  · rcases set_there hn h' with ⟨hm, hz⟩ | ⟨hm, h'⟩
    · subst hm; cases hz
      exact ⟨o, upd_same, RepH.go x.go r⟩
    · obtain ⟨ws, hh, rr⟩ := c.cell m zs h'
      refine ⟨ws, ?_, RepH.go x.go rr⟩
      show L2.upd R.H (R.ρ n) o (R.ρ m) = some ws
      rw [upd_ne (fun z => hm (c.inj m n zs e h' h z))]
      exact hh
  · obtain ⟨z1, b1⟩ := was m zs h1
    obtain ⟨z2, b2⟩ := was m' zs' h2
    exact c.inj m m' z1 z2 b1 b2 q
  · obtain ⟨z1, b1⟩ := was m zs h'
    exact c.out m z1 b1
  · obtain ⟨u, hu⟩ := c.dom a ha
    have na : a ≠ R.ρ n := fun z => c.out n e h (by rw [← z]; exact ha)
    exact ⟨u, by show L2.upd R.H (R.ρ n) o a = some u; rw [upd_ne na]; exact hu⟩

/-- a cell is laid down: from now on it stays -/
def RC.cellEnd (R : RC) (n : Nat) : RC := { R with S := R.S.set n none }
theorem live_end {R : RC} {n : Nat} {e : D} (h : R.S[n]? = some (some e)) {a : Addr} (l : Live R.ρ (R.S.set n none) a) : Live R.ρ R.S a := by
  have hn : n < R.S.length := (List.getElem?_eq_some_iff.mp h).1
  obtain ⟨m, z, h', q⟩ := l
  rcases set_there hn h' with ⟨_, hz⟩ | ⟨_, h'⟩
  · cases hz
  · exact ⟨m, z, h', q⟩
theorem Ext.cellEnd {R : RC} {n : Nat} {e : D} (h : R.S[n]? = some (some e)) : Ext R (R.cellEnd n) :=
  ⟨rfl, rfl, rfl, fun a u h' nl => ⟨h', fun z => nl (live_end h z)⟩, by show R.S.length ≤ (R.S.set n none).length; rw [List.length_set]; exact Nat.le_refl _, fun _ _ => rfl⟩
theorem Cells.cellEnd {R : RC} (c : Cells R) {n : Nat} {e : D} (h : R.S[n]? = some (some e)) : Cells (R.cellEnd n) := by
  have x := Ext.cellEnd h
  have hn : n < R.S.length := (List.getElem?_eq_some_iff.mp h).1
  have was : ∀ (m : Nat) zs, (R.S.set n none)[m]? = some (some zs) → R.S[m]? = some (some zs) := fun m zs h1 => by
    rcases set_there hn h1 with ⟨_, hz⟩ | ⟨_, h'⟩
    · cases hz
    · exact h'
  exact ⟨fun m zs h' => let ⟨o, hh, rr⟩ := c.cell m zs (was m zs h'); ⟨o, hh, RepH.go x.go rr⟩, fun m m' zs zs' h1 h2 q => c.inj m m' zs zs' (was _ _ h1) (was _ _ h2) q, fun m zs h' => c.out m zs (was _ _ h'), c.dom, ZOk.go x.go c.zok⟩
theorem Rep.cellEnd {R : RC} (c : Cells R) {n : Nat} {e : D} (h : R.S[n]? = some (some e)) : Rep (R.cellEnd n) (.ref (R.ρ n)) e := by
  obtain ⟨o, hh, r⟩ := c.cell n e h
  have hn : n < R.S.length := (List.getElem?_eq_some_iff.mp h).1
  refine Rep.of_H (R := R.cellEnd n) hh ⟨?_, c.out n e h⟩ (RepH.go (Ext.cellEnd h).go r)
  rintro ⟨m, z, h', q⟩
  rcases set_there hn (show (R.S.set n none)[m]? = some (some z) from h') with ⟨_, hz⟩ | ⟨hm, h'⟩
  · cases hz
  · exact hm (c.inj m n z e h' h q)

/-! lists of them -/
theorem RepL.length {R : RC} : ∀ {ds : List D} {vs : List V}, RepL R vs ds → vs.length = ds.length
  | [], _, h => by unfold RepL at h; rw [h]; rfl
  | d :: ds, _, h => by
    unfold RepL at h
    obtain ⟨v, r, e, _, h2⟩ := h
    rw [e, List.length_cons, List.length_cons, RepL.length h2]
theorem RepL.get {R : RC} : ∀ {ds : List D} {vs : List V} {i : Nat} {d : D}, RepL R vs ds → ds[i]? = some d → ∃ v, vs[i]? = some v ∧ Rep R v d
  | [], _, _, _, _, e => by simp at e
  | d :: ds, _, 0, d', h, e => by
    unfold RepL at h
    obtain ⟨v, r, e1, h1, h2⟩ := h
    subst e1
    simp at e
    subst e
    exact ⟨v, rfl, h1⟩
  | d :: ds, _, i + 1, d', h, e => by
    unfold RepL at h
    obtain ⟨v, r, e1, h1, h2⟩ := h
    subst e1
    obtain ⟨w, q1, q2⟩ := RepL.get (i := i) h2 (by simpa using e)
    exact ⟨w, by simpa using q1, q2⟩
theorem RepL.getV {R : RC} {ds : List D} {vs : List V} {i : Nat} {v : V} (h : RepL R vs ds) (e : vs[i]? = some v) : ∃ d, ds[i]? = some d ∧ Rep R v d := by
  have hi : i < ds.length := by rw [← h.length]; exact (List.getElem?_eq_some_iff.mp e).1
  obtain ⟨w, q1, q2⟩ := h.get (List.getElem?_eq_getElem hi)
  rw [e] at q1
  cases q1
  exact ⟨_, List.getElem?_eq_getElem hi, q2⟩
theorem RepL.nil {R : RC} : RepL R [] [] := by unfold RepL; rfl
theorem RepL.cons {R : RC} {v : V} {d : D} {vs : List V} {ds : List D} (h : Rep R v d) (r : RepL R vs ds) : RepL R (v :: vs) (d :: ds) := by
  unfold RepL
  exact ⟨v, vs, rfl, h, r⟩
theorem RepL.append {R : RC} : ∀ {ds es : List D} {vs ws : List V}, RepL R vs ds → RepL R ws es → RepL R (vs ++ ws) (ds ++ es)
  | [], es, vs, ws, h, r => by unfold RepL at h; subst h; exact r
  | d :: ds, es, vs, ws, h, r => by
    unfold RepL at h
    obtain ⟨v, q, e, h1, h2⟩ := h
    subst e
    exact RepL.cons h1 (RepL.append h2 r)
theorem RepL.take {R : RC} : ∀ {ds : List D} {vs : List V} (n : Nat), RepL R vs ds → RepL R (vs.take n) (ds.take n)
  | [], vs, n, h => by unfold RepL at h; subst h; simp; exact RepL.nil
  | d :: ds, vs, 0, h => by simp; exact RepL.nil
  | d :: ds, vs, n + 1, h => by
    unfold RepL at h
    obtain ⟨v, q, e, h1, h2⟩ := h
    subst e
    exact RepL.cons h1 (RepL.take n h2)
theorem RepL.drop {R : RC} : ∀ {ds : List D} {vs : List V} (n : Nat), RepL R vs ds → RepL R (vs.drop n) (ds.drop n)
  | [], vs, n, h => by unfold RepL at h; subst h; simp; exact RepL.nil
  | d :: ds, vs, 0, h => h
  | d :: ds, vs, n + 1, h => by
    unfold RepL at h
    obtain ⟨v, q, e, h1, h2⟩ := h
    subst e
    exact RepL.drop n h2
theorem RepL.set {R : RC} {v : V} {d : D} (r : Rep R v d) : ∀ {ds : List D} {vs : List V} (i : Nat), RepL R vs ds → RepL R (vs.set i v) (ds.set i d)
  | [], vs, n, h => by unfold RepL at h; subst h; exact RepL.nil
  | e :: ds, vs, 0, h => by
    unfold RepL at h
    obtain ⟨w, q, e, h1, h2⟩ := h
    subst e
    exact RepL.cons r h2
  | e :: ds, vs, n + 1, h => by
    unfold RepL at h
    obtain ⟨w, q, e, h1, h2⟩ := h
    subst e
    exact RepL.cons h1 (RepL.set r n h2)
theorem RepL.eraseIdx {R : RC} : ∀ {ds : List D} {vs : List V} (i : Nat), RepL R vs ds → RepL R (vs.eraseIdx i) (ds.eraseIdx i)
  | [], vs, n, h => by unfold RepL at h; subst h; exact RepL.nil
  | e :: ds, vs, 0, h => by
    unfold RepL at h
    obtain ⟨w, q, e, h1, h2⟩ := h
    subst e
    exact h2
  | e :: ds, vs, n + 1, h => by
    unfold RepL at h
    obtain ⟨w, q, e, h1, h2⟩ := h
    subst e
    exact RepL.cons h1 (RepL.eraseIdx n h2)
end Gc

end

section
set_option Elab.async false
set_option linter.all false
set_option maxRecDepth 100000
/-! a small syntax and its interpreter -/
namespace Gc
open PySem L2

inductive Cn where | non | bl (b : Bool) | int (i : Int) | str (x : Str)
def Cn.d : Cn → D
  | .non => .non | .bl b => .bl b | .int i => .int i | .str x => .str x
/-- classes that isinstance asks for -/
inductive Ty where | int | bool | str | list | tuple | dict | cls (c : Nat)
/-- built-ins -/
inductive Bl where | len | abs | int | str | all | any | sum | list | tuple | max | min | listRange
/-- methods of built-in types -/
inductive Bm where | append | pop | popAt | clear | index | join | split
/-- targets -/
inductive TG where | one (i : Nat) | tup (is : List Nat)
/-- what is walked -/
inductive Wk where | seq | rng1 | rng2 | enum | zip

inductive TX where
  | var (i : Nat) (fz : Bool)
  | con (c : Cn)
  | bin (op : Operator) (a b : TX)
  | neg (a : TX)
  | cmp (op : CmpOp) (a b : TX)
  | cmpP (op : CmpOp) (a b : TX)
  | chn (op op' : CmpOp) (a b c : TX)
  | and (a b : TX) | or (a b : TX) | not (a : TX)
  | ife (c a b : TX)
  | star (a : TX)
  | lst (es : List TX) | tup (es : List TX)
  | dic (dm : Nat) (ks : List Key) (es : List TX)
  | lc (own : List Nat) (tg : TG) (k : Wk) (its ifs : List TX) (elt : TX)
  | lc2 (own own1 : List Nat) (tg : TG) (k : Wk) (its ifs : List TX) (tg1 : TG) (k1 : Wk) (its1 ifs1 : List TX) (elt : TX)
  | call (f : Nat) (es : List TX)
  | callK (f n : Nat) (es us : List TX)
  | make (dm c : Nat) (es : List TX)
  | meth (o : TX) (m : Str) (es : List TX)
  | methK (o : TX) (m : Str) (es : List TX) (ks : List Str) (us : List TX)
  | attr (o : TX) (f : Str)
  | sub (o i : TX)
  | sl (o : TX) (lo hi : Bool) (es : List TX)
  | blt (b : Bl) (es : List TX)
  | isi (a : TX) (ts : List Ty)
  | bm (o : TX) (m : Bm) (es : List TX)
  | exf (i : Nat) (f : Str)
  | fnv (f : Nat)
  | callV (i : Nat) (es : List TX)
  | rev (o : TX)
  | len (o : TX)
  | ssp (o e : TX)
  | sjn (o e : TX)
  deriving Inhabited

structure Fn where
  ps : List Str
  nl : Nat
  dfl : List Cn := []
def Fn.np (q : Fn) : Nat := q.ps.length
structure Cl where
  init : Nat
  meths : List (Str × Nat)
  fields : List Str
  /-- an exception class: the names of its attributes -/
  exc : Option (List Str) := none
  /-- the classes that it is below, itself among them -/
  up : List Nat := []
structure Pg where
  fns : List Fn
  cls : List Cl
  fu : Nat := 0
  /-- the names of errors' attributes -/
  xfs : List Str := []
def Pg.cl (P : Pg) (c : Nat) : Option Cl := P.cls[c]?

inductive Rf where
  | ok (d : D) (S : List (Option D))
  | exn (c : Nat) (ns : List Str) (xs : List D) (S : List (Option D))
  | bad
/-- how a def is run: its number, the arguments, whether the answer is to be a cell, the cells -/
abbrev Hc := Nat → List D → Nat → List (Option D) → Rf
def callM (hc : Hc) (f : Nat) (ds : List D) (md : Nat) : M D := fun s => match hc f ds md s.S with
  | .ok d S => .ok d ⟨s.τ, S⟩
  | .exn c ns xs S => .exn c ns xs ⟨s.τ, S⟩
  | .bad => .bad

/-- .. with as many arguments as it has parameters -/
def callP (P : Pg) (hc : Hc) (f : Nat) (ds : List D) (md : Nat) : M D := match P.fns[f]? with
  | some q => if ds.length = q.np then callM hc f ds md else bad
  | none => bad

/-! ### values -/
/-- a container, or the cell's -/
def de (S : List (Option D)) : D → Option D
  | .ref n => S[n]?.join
  | d => some d
def seqD (S : List (Option D)) (d : D) : Option (List D) := match de S d with | some (.lst xs) => some xs | some (.tup xs) => some xs | _ => none
mutual
def toPy : D → Option PyData
  | .non => some .none
  | .bl b => some (.bool b)
  | .int i => some (.int i)
  | .str x => some (.str x)
  | .lst xs => (toPys xs).map .list
  | .tup xs => (toPys xs).map .tuple
  | _ => none
def toPys : List D → Option (List PyData)
  | [] => some []
  | d :: ds => (toPy d).bind fun p => (toPys ds).map fun ps => p :: ps
end
/-- == of data -/
def eqPy (S : List (Option D)) (d e : D) : Option Bool := (de S d).bind fun d => (de S e).bind fun e => (toPy d).bind fun p => (toPy e).bind fun q =>
  if SeqAt.shaped p && SeqAt.shaped q then some (PyData.eqv p q) else none
/-- one live cell -/
def sameRef : D → D → Bool
  | .ref i, .ref j => i == j
  | _, _ => false
def eqIs (f : D → D → Option Bool) : List D → List D → Option Bool
  | [], [] => some true
  | x :: xs, y :: ys => (f x y).bind fun a => (eqIs f xs ys).map fun b => a && b
  | _, _ => none
/-- == of two lists or two tuples, item by item -/
def eqSq (S : List (Option D)) (f : D → D → Option Bool) (d e : D) : Option Bool := match de S d, de S e with
  | some (.lst xs), some (.lst ys) => if xs.length = ys.length then eqIs f xs ys else some false
  | some (.tup xs), some (.tup ys) => if xs.length = ys.length then eqIs f xs ys else none
  | _, _ => none
def eqI (S : List (Option D)) : Nat → D → D → Option Bool
  | 0 => fun _ _ => none
  | n + 1 => fun d e => if sameRef d e then some true else match eqPy S d e with
    | some k => some k
    | none => eqSq S (eqI S n) d e
def eqT (S : List (Option D)) (d e : D) : Option Bool := match eqPy S d e with
  | some k => some k
  | none => eqSq S (eqI S 30) d e
def mulOk (i j : Int) : Bool := decide (i.natAbs.log2 + j.natAbs.log2 < 1000000)
/-- the outcome of an operation: a value, a new list -/
inductive Ov where | v (d : D) | l (xs : List D)
def binD (S : List (Option D)) (op : Operator) (a b : D) : Option Ov := match op, a, b with
  | .Add, .int i, .int j => some (.v (.int (i + j)))
  | .Sub, .int i, .int j => some (.v (.int (i - j)))
  | .Mult, .int i, .int j => if mulOk i j then some (.v (.int (i * j))) else none
  | .FloorDiv, .int i, .int j => if 0 < j ∧ j.natAbs.log2 < 9000 then some (.v (.int (i / j))) else none
  | .Mod, .int i, .int j => if 0 < j then some (.v (.int (i % j))) else none
  | .Pow, .int i, .int j => if 0 ≤ j ∧ (Builtin.Int.intBits i : Int) * j ≤ 2 ^ 27 then some (.v (.int (i ^ j.toNat))) else none
  | .Add, .str x, .str y => if x.length + y.length ≤ sizeLine then some (.v (.str (x ++ y))) else none
  | .Add, a, b => (match de S a, de S b with
    | some (.lst xs), some (.lst ys) => if xs.length + ys.length ≤ sizeLine then some (.l (xs ++ ys)) else none
    | _, _ => none)
  | .Mult, a, .int k => (match de S a with
    | some (.lst xs) => if -(2 ^ 63) ≤ k ∧ k < 2 ^ 63 ∧ xs.length * k.toNat ≤ sizeLine then some (.l (List.replicate k.toNat xs).flatten) else none
    | _ => none)
  | _, _, _ => none
/-- one sign -/
def isSign (x : Str) : Option Nat := match x.cps.toList with | [c] => some c | _ => none
def isNonD : D → Bool
  | .non => true
  | _ => false
def cmpD (S : List (Option D)) (op : CmpOp) (a b : D) : Option Bool := match op with
  | .Lt => (match a, b with | .int i, .int j => some (decide (i < j)) | _, _ => none)
  | .LtE => (match a, b with | .int i, .int j => some (decide (i ≤ j)) | _, _ => none)
  | .Gt => (match a, b with | .int i, .int j => some (decide (j < i)) | _, _ => none)
  | .GtE => (match a, b with | .int i, .int j => some (decide (j ≤ i)) | _, _ => none)
  | .Eq => eqT S a b
  | .NotEq => (eqT S a b).map (!·)
  | .Is => (match b with | .non => some (isNonD a) | _ => none)
  | .IsNot => (match b with | .non => some (!isNonD a) | _ => none)
  | .In => inD S a b
  | .NotIn => (inD S a b).map (!·)
where inD (S : List (Option D)) (a b : D) : Option Bool := match de S b with
  | some (.str z) => (match a with | .str x => (isSign x).map fun c => decide (c ∈ z.cps.toList) | _ => none)
  | some (.lst ys) => (de S a).bind fun a => (toPy a).bind fun p => (toPys ys).bind fun qs =>
      if SeqAt.shaped p && SeqAt.shaped (.list qs) then some (qs.any fun z => PyData.eqv z p) else none
  | some (.tup ys) => (de S a).bind fun a => (toPy a).bind fun p => (toPys ys).bind fun qs =>
      if SeqAt.shaped p && SeqAt.shaped (.tuple qs) then some (qs.any fun z => PyData.eqv z p) else none
  | _ => none
def truD (S : List (Option D)) (d : D) : Option Bool := match de S d with
  | some .non => some false
  | some (.bl b) => some b
  | some (.int i) => some (i != 0)
  | some (.str x) => if x.length ≤ sizeLine then some (x.length != 0) else none
  | some (.lst xs) => some (!xs.isEmpty)
  | some (.tup xs) => some (!xs.isEmpty)
  | _ => none
def keyD : D → Option Key
  | .int i => some (.inl i)
  | .str x => some (.inr x)
  | _ => none
def keysD : D → Option (List Key)
  | .tup xs => xs.mapM keyD
  | _ => none
def lookK {κ : Type} [DecidableEq κ] (k : κ) : List κ → List D → Option D
  | k' :: ks, d :: ds => if k = k' then some d else lookK k ks ds
  | _, _ => none
def intD : D → Option Int
  | .int k => some k
  | _ => none
def subD (S : List (Option D)) (o i : D) : Option D := match de S o with
  | some (.lst xs) => (intD i).bind fun k => atI xs k
  | some (.tup xs) => (intD i).bind fun k => atI xs k
  | some (.scr ns) => (intD i).bind fun k => (atI ns k).map .int
  | some (.str z) => (intD i).bind fun k => if z.length ≤ sizeLine then (atI z.cps.toList k).map fun c => .str ⟨#[c]⟩ else none
  | some (.dK ks xs) => (keyD i).bind fun k => lookK k ks xs
  | some (.dT ks xs) => (keysD i).bind fun k => lookK k ks xs
  | _ => none
def cutD (xs : List D) (lo hi : Option Int) : List D := (xs.drop (HT.sIx xs.length 0 lo)).take (HT.sIx xs.length xs.length hi - HT.sIx xs.length 0 lo)
def slD (S : List (Option D)) (o : D) (lo hi : Option Int) : Option Ov := match de S o with
  | some (.lst xs) => some (.l (cutD xs lo hi))
  | some (.tup xs) => if HT.sIx xs.length 0 lo = 0 ∧ HT.sIx xs.length xs.length hi = xs.length then none else some (.v (.tup (cutD xs lo hi)))
  | some (.str z) => if z.length ≤ sizeLine then some (.v (.str (cutS z lo hi))) else none
  | _ => none
def asInts : List D → Option (List Int)
  | [] => some []
  | .int i :: r => (asInts r).map (i :: ·)
  | _ => none
def asBools : List D → Option (List Bool)
  | [] => some []
  | .bl i :: r => (asBools r).map (i :: ·)
  | _ => none
def asStrs : List D → Option (List Str)
  | [] => some []
  | .str i :: r => (asStrs r).map (i :: ·)
  | _ => none
def lenD (S : List (Option D)) (d : D) : Option Nat := match de S d with
  | some (.lst xs) => some xs.length
  | some (.tup xs) => some xs.length
  | some (.scr ns) => some ns.length
  | some (.str x) => if x.length ≤ sizeLine then some x.length else none
  | _ => none
def b1 (f : D → Option Ov) : List D → Option Ov
  | [d] => f d
  | _ => none
def b2 (f : D → D → Option Ov) : List D → Option Ov
  | [d, e] => f d e
  | _ => none
def lst1 (S : List (Option D)) (f : List D → Option Ov) (d : D) : Option Ov := match de S d with
  | some (.lst xs) => f xs
  | _ => none
def toInt1 : D → Option Ov
  | .int i => some (.v (.int i))
  | .bl k => some (.v (.int (if k then 1 else 0)))
  | _ => none
def int1 (f : Int → Option Ov) : D → Option Ov
  | .int i => f i
  | _ => none
def bltD (S : List (Option D)) (b : Bl) (ds : List D) : Option Ov := match b with
  | .len => b1 (fun d => (lenD S d).map fun n : Nat => .v (.int (n : Int))) ds
  | .abs => b1 (int1 fun i => some (.v (.int (if i < 0 then -i else i)))) ds
  | .int => b1 toInt1 ds
  | .str => b1 (int1 fun i => if i.natAbs.log2 < 1920 then some (.v (.str (toString i))) else none) ds
  | .all => b1 (lst1 S fun xs => (asBools xs).map fun bs => .v (.bl (bs.all id))) ds
  | .any => b1 (lst1 S fun xs => (asBools xs).map fun bs => .v (.bl (bs.any id))) ds
  | .sum => b1 (lst1 S fun xs => (asInts xs).map fun ns => .v (.int ns.sum)) ds
  | .list => b1 (fun d => (seqD S d).map fun xs => .l xs) ds
  | .tuple => b1 (fun d => (seqD S d).map fun xs => .v (.tup xs)) ds
  | .max => b2 (fun d e => int1 (fun i => int1 (fun j => some (.v (.int (if j > i then j else i)))) e) d) ds
  | .min => b2 (fun d e => int1 (fun i => int1 (fun j => some (.v (.int (if j < i then j else i)))) e) d) ds
  | .listRange => b1 (int1 fun j => if -(2 ^ 62) ≤ j ∧ j < 2 ^ 62 ∧ j.toNat ≤ sizeLine then some (.l ((List.range j.toNat).map fun k : Nat => .int (k : Int))) else none) ds
def isTy (P : Pg) (d : D) : Ty → Bool
  | .int => (match d with | .int _ | .bl _ => true | _ => false)
  | .bool => (match d with | .bl _ => true | _ => false)
  | .str => (match d with | .str _ => true | _ => false)
  | .list => (match d with | .lst _ => true | _ => false)
  | .tuple => (match d with | .tup _ => true | _ => false)
  | .dict => (match d with | .dK _ _ | .dT _ _ => true | _ => false)
  | .cls c => (match d with | .obj c' _ _ => c == c' | _ => false)
def plainCl (P : Pg) (c : Nat) : Bool := match P.cl c with | some q => q.exc.isNone | none => false
def okD (P : Pg) : D → Bool
  | .obj c _ _ => plainCl P c
  | .ref _ => false
  | .exc => false
  | .fn _ => false
  | .scr _ => false
  | _ => true
def okTy (P : Pg) : Ty → Bool
  | .cls c => plainCl P c
  | _ => true
def isiD (P : Pg) (S : List (Option D)) (d : D) (ts : List Ty) : Option Bool := (de S d).bind fun e => if okD P e && ts.all (okTy P) then some (ts.any (isTy P e)) else none
/-- what a walk goes over -/
def walkD (S : List (Option D)) (k : Wk) (ds : List D) : Option (List D) := match k, ds with
  | .seq, [.lst xs] => some xs
  | .seq, [.tup xs] => some xs
  | .seq, [.str z] => some (z.cps.toList.map fun c => .str ⟨#[c]⟩)
  | .rng1, [.int j] => if -(2 ^ 62) ≤ j ∧ j < 2 ^ 62 then some ((List.range j.toNat).map fun k : Nat => .int (k : Int)) else none
  | .rng2, [.int i, .int j] => if (-(2 ^ 62) ≤ i ∧ i < 2 ^ 62) ∧ -(2 ^ 62) ≤ j ∧ j < 2 ^ 62 then some ((List.range (j - i).toNat).map fun k : Nat => .int (i + (k : Int))) else none
  | .enum, [.lst xs] => some ((List.range xs.length).zipWith (fun (n : Nat) x => .tup [.int (n : Int), x]) xs)
  | .enum, [.tup xs] => some ((List.range xs.length).zipWith (fun (n : Nat) x => .tup [.int (n : Int), x]) xs)
  | .zip, [.lst xs, .lst ys] => some (List.zipWith (fun x y => .tup [x, y]) xs ys)
  | _, _ => none

/-! ### steps -/
def new (md : Nat) (d : D) : M D := fun s => if md = 0 then .ok d s else .ok (.ref s.S.length) ⟨s.τ, s.S ++ [some d]⟩
def fin (md : Nat) : Ov → M D
  | .v d => M.pure d
  | .l xs => new md (.lst xs)
def readV (i : Nat) (fz : Bool) : M D := fun s => match s.τ[i]? with
  | some (some (.ref n)) => if fz then (match s.S[n]? with
      | some (some e) => .ok e ⟨s.τ.set i (some e), s.S.set n none⟩
      | _ => .bad) else .ok (.ref n) s
  | some (some .exc) => .bad
  | some (some d) => .ok d s
  | _ => .bad
def setV (i : Nat) (d : D) : M Unit := fun s => .ok () ⟨s.τ.set i (some d), s.S⟩
def setVs : List Nat → List D → M Unit
  | [], [] => M.pure ()
  | i :: is, d :: ds => M.bind (setV i d) fun _ => setVs is ds
  | _, _ => bad
def bindT (tg : TG) (d : D) : M Unit := match tg with
  | .one i => setV i d
  | .tup is => (match d with
    | .tup xs => if xs.length = is.length then setVs is xs else bad
    | .lst xs => if xs.length = is.length then setVs is xs else bad
    | _ => bad)
def wipeT (own : List Nat) (τ : List (Option D)) : List (Option D) := match own with
  | [] => τ
  | i :: r => (wipeT r τ).set i none
def backT (τ0 : List (Option D)) (own : List Nat) (τ : List (Option D)) : List (Option D) := match own with
  | [] => τ
  | i :: r => (backT τ0 r τ).set i (τ0[i]?.join)
/-- nothing is raised -/
def noX {α : Type} (m : M α) : M α := fun s => match m s with
  | .exn _ _ _ _ => .bad
  | r => r
def compL (turn : D → M (Option D)) : List D → List D → M (List D)
  | acc, [] => M.pure acc
  | acc, x :: xs => M.bind (turn x) fun o => match o with
    | some y => if acc.length < sizeLine then compL turn (acc ++ [y]) xs else bad
    | none => compL turn acc xs
/-- a comprehension's block -/
def block (own : List Nat) (m : M (List D)) : M (List D) := fun s => match m s with
  | .ok xs s' => .ok xs ⟨backT s.τ own s'.τ, s'.S⟩
  | _ => .bad
def enter (own : List Nat) (tg : TG) (x : D) : M Unit := M.bind (fun s => .ok () ⟨wipeT own s.τ, s.S⟩) fun _ => bindT tg x
def putFD (f : Str) (d : D) : List Str → List D → Option (List Str × List D)
  | [], [] => some ([f], [d])
  | n :: ns, x :: xs => if n = f then some (n :: ns, d :: xs) else (putFD f d ns xs).map fun p => (n :: p.1, x :: p.2)
  | _, _ => none
def classOf (S : List (Option D)) (d : D) : Option Nat := match de S d with
  | some (.obj c _ _) => some c
  | _ => none
def attrD (P : Pg) (S : List (Option D)) (d : D) (f : Str) : Option D := match de S d with
  | some (.obj c ns xs) => (P.cl c).bind fun q => if f ∈ q.fields then lookK f ns xs else none
  | _ => none
def methD (P : Pg) (S : List (Option D)) (d : D) (m : Str) : Option Nat := match de S d with
  | some (.obj c ns _) => (P.cl c).bind fun q => if m ∈ ns then none else q.meths.lookup m
  | _ => none
def makeM (P : Pg) (hc : Hc) (c : Nat) (ds : List D) (md : Nat) : M D := fun s => match P.cl c with
  | some q => if q.exc.isSome || !((P.fns[q.init]?).map (·.np) == some (ds.length + 1)) then .bad else (match hc q.init (.ref s.S.length :: ds) 0 (s.S ++ [some (.obj c [] [])]) with
    | .ok .non S => (match S[s.S.length]? with
      | some (some e) => if md = 0 then .ok e ⟨s.τ, S.set s.S.length none⟩ else .ok (.ref s.S.length) ⟨s.τ, S⟩
      | _ => .bad)
    | .exn c ns xs S => .exn c ns xs ⟨s.τ, S⟩
    | _ => .bad)
  | none => .bad
def cellOf (S : List (Option D)) (d : D) : Option (Nat × D) := match d with
  | .ref n => (S[n]?.join).map fun e => (n, e)
  | _ => none
def cellL (S : List (Option D)) (d : D) : Option (Nat × List D) := (cellOf S d).bind fun p => match p.2 with
  | .lst xs => some (p.1, xs)
  | _ => none
def one1 : List D → Option D
  | [d] => some d
  | _ => none
def none0 : List D → Option Unit
  | [] => some ()
  | _ => none
/-- the first place of an equal item -/
def indexD (S : List (Option D)) (o d : D) : Option Nat := (de S o).bind fun o => match o with
  | .lst ys => (de S d).bind fun d => (toPy d).bind fun p => (toPys ys).bind fun qs => if SeqAt.shaped p && SeqAt.shaped (.list qs) then qs.findIdx? fun z => PyData.eqv z p else none
  | _ => none
def lstOk (S : List (Option D)) (d : D) : Option Unit := match de S d with
  | some (.lst _) => some ()
  | _ => none
def bmD (S : List (Option D)) (m : Bm) (o : D) (ds : List D) : Option (Ov × List (Option D)) := match m with
  | .append => (one1 ds).bind fun d => (cellL S o).bind fun p => if p.2.length < sizeLine then some (.v .non, S.set p.1 (some (.lst (p.2 ++ [d])))) else none
  | .pop => (none0 ds).bind fun _ => (cellL S o).bind fun p => (p.2[p.2.length - 1]?).map fun y => (.v y, S.set p.1 (some (.lst p.2.dropLast)))
  | .popAt => (one1 ds).bind fun d => (intD d).bind fun i => (cellL S o).bind fun p => if -(2 ^ 63) ≤ i ∧ i < 2 ^ 63 then (seqIndex? i p.2.length).bind fun k => (p.2[k]?).map fun y => (.v y, S.set p.1 (some (.lst (p.2.eraseIdx k)))) else none
  | .clear => (none0 ds).bind fun _ => (cellL S o).bind fun p => some (.v .non, S.set p.1 (some (.lst [])))
  | .index => (one1 ds).bind fun d => (indexD S o d).map fun n : Nat => (.v (.int (n : Int)), S)
  | _ => none
def bmM (m : Bm) (o : D) (ds : List D) (md : Nat) : M D := fun s => match bmD s.S m o ds with
  | some (ov, S) => fin md ov ⟨s.τ, S⟩
  | none => .bad
def optI (es : List D) (lo hi : Bool) : Option (Option Int × Option Int) := match lo, hi, es with
  | false, false, [] => some (none, none)
  | true, false, [.int i] => some (some i, none)
  | false, true, [.int j] => some (none, some j)
  | true, true, [.int i, .int j] => some (some i, some j)
  | _, _, _ => none
def opS {α β : Type} (f : List (Option D) → α → Option β) (a : α) : M β := fun s => match f s.S a with | some b => .ok b s | none => .bad

/-- an attribute of the handled exception -/
def exfM (i : Nat) (f : Str) (xc : List Str × List D) : M D := fun s => match s.τ[i]? with
  | some (some .exc) => (match lookK f xc.1 xc.2 with | some d => .ok d s | none => .bad)
  | _ => .bad
/-- a def that a slot holds -/
def fnAt (P : Pg) (i : Nat) : M Nat := fun s => match s.τ[i]? with
  | some (some (.fn f)) => if (P.fns[f]?).isSome then .ok f s else .bad
  | _ => .bad
/-- xs[::-1] -/
def revD (S : List (Option D)) (d : D) : Option Ov := match de S d with
  | some (.lst xs) => some (.l xs.reverse)
  | _ => none
/-- the class's own == : its number -/
def okAny (P : Pg) (S : List (Option D)) (y : D) : Bool := match de S y with | some e => okD P e | none => false
def ownEq (P : Pg) (S : List (Option D)) (op : CmpOp) (x y : D) : Option Nat := match op with
  | .Eq => if okAny P S y then methD P S x "__eq__" else none
  | _ => none
def isBlD : D → Option Bool
  | .bl k => some k
  | _ => none
/-- a comparison: the class's own, or that of data -/
def cmpM (P : Pg) (hc : Hc) (op : CmpOp) (x y : D) : M D := fun s => match ownEq P s.S op x y with
  | some p => M.bind (callP P hc p [x, y] 0) (fun d => M.bind (liftO (isBlD d)) fun k => M.pure (.bl k)) s
  | none => M.bind (opS (fun S _ => cmpD S op x y) ()) (fun k => M.pure (.bl k)) s
/-- len: the class's own, or that of data -/
def lenM (P : Pg) (hc : Hc) (x : D) : M D := fun s => match methD P s.S x "__len__" with
  | some f => M.bind (callP P hc f [x] 0) (fun d => M.bind (liftO (intD d)) fun i => if 0 ≤ i ∧ i < 2 ^ 62 then M.pure (.int i) else bad) s
  | none => M.bind (opS (fun S _ => lenD S x) ()) (fun n => M.pure (.int (n : Int))) s
/-- a text -/
def strD : D → Option Str
  | .str x => some x
  | _ => none
/-- x.split(y) -/
def splitD (a b : Str) : Option Ov := if b.length ≠ 0 ∧ a.length + 2 ≤ sizeLine then some (.l ((PySem.Txt.split a b).map .str)) else none
/-- x.join(ys) -/
def joinD (S : List (Option D)) (a : Str) (d : D) : Option D := (seqD S d).bind fun xs => (asStrs xs).bind fun ys => if (ys.map (·.length)).sum + ys.length * a.length ≤ 16777216 then some (.str (PySem.Txt.join a ys)) else none
/-- slots are emptied -/
def wipeM (ws : List Nat) : M Unit := fun s => .ok () ⟨wipeT ws s.τ, s.S⟩
def wipeA {α : Type} (ws : List Nat) (m : M α) : M α := fun s => match m s with
  | .ok a s' => .ok a ⟨wipeT ws s'.τ, s'.S⟩
  | r => r
/-! ### walks and comprehensions -/
abbrev wkM (k : Wk) (ml : M (List D)) : M (List D) := M.bind ml fun ws => opS (fun S _ => walkD S k ws) ()
abbrev turnM (own : List Nat) (tgD : TG) (mt : M Bool) (me : M D) (x : D) : M (Option D) := noX (M.bind (enter own tgD x) fun _ => M.bind mt fun k => if k then M.bind me fun y => M.pure (some y) else M.pure none)
abbrev lcM (own : List Nat) (tgD : TG) (md : Nat) (mi : M (List D)) (mt : M Bool) (me : M D) : M D := M.bind mi fun src => M.bind (block own (compL (turnM own tgD mt me) [] src)) fun xs => new md (.lst xs)
def foldL (step : List D → D → M (List D)) : List D → List D → M (List D)
  | acc, [] => M.pure acc
  | acc, x :: xs => M.bind (step acc x) fun acc => foldL step acc xs
abbrev turn2M (own : List Nat) (tgD : TG) (mt : M Bool) (mi1 : M (List D)) (own1 : List Nat) (tgD1 : TG) (mt1 : M Bool) (me : M D) (acc : List D) (x : D) : M (List D) :=
  noX (M.bind (enter own tgD x) fun _ => M.bind mt fun k => if k then M.bind mi1 fun src => compL (turnM own1 tgD1 mt1 me) acc src else M.pure acc)
abbrev lc2M (own : List Nat) (tgD : TG) (md : Nat) (mi : M (List D)) (mt : M Bool) (mi1 : M (List D)) (own1 : List Nat) (tgD1 : TG) (mt1 : M Bool) (me : M D) : M D :=
  M.bind mi fun src => M.bind (block own (foldL (turn2M own tgD mt mi1 own1 tgD1 mt1 me) [] src)) fun xs => new md (.lst xs)

/-- a value's evaluation, and the test by its truth -/
def dv (f : Nat → M D) : (Nat → M D) × M Bool := (f, M.bind (f 0) fun d => opS (fun S _ => truD S d) ())
mutual
def evP (P : Pg) (hc : Hc) (xc : List Str × List D) : TX → (Nat → M D) × M Bool
  | .var i fz => dv fun _ => readV i fz
  | .con c => dv fun _ => M.pure c.d
  | .bin op a b => dv fun md => M.bind ((evP P hc xc a).1 0) fun x => M.bind ((evP P hc xc b).1 0) fun y => M.bind (opS (fun S _ => binD S op x y) ()) (fin md)
  | .neg a => dv fun _ => M.bind ((evP P hc xc a).1 0) fun x => match x with | .int i => M.pure (.int (-i)) | _ => bad
  | .cmp op a b => dv fun _ => M.bind ((evP P hc xc a).1 0) fun x => M.bind ((evP P hc xc b).1 0) fun y => cmpM P hc op x y
  | .cmpP op a b => dv fun _ => M.bind ((evP P hc xc a).1 0) fun x => M.bind ((evP P hc xc b).1 0) fun y => M.bind (opS (fun S _ => cmpD S op x y) ()) fun k => M.pure (.bl k)
  | .chn op op' a b c => dv fun _ => M.bind ((evP P hc xc a).1 0) fun x => M.bind ((evP P hc xc b).1 0) fun y => M.bind (opS (fun S _ => cmpD S op x y) ()) fun k =>
      if k then M.bind ((evP P hc xc c).1 0) fun z => M.bind (opS (fun S _ => cmpD S op' y z) ()) fun k => M.pure (.bl k) else M.pure (.bl false)
  | .and a b => (fun md => M.bind ((evP P hc xc a).1 0) fun x => match x with | .bl true => (evP P hc xc b).1 md | .bl false => M.pure (.bl false) | _ => bad,
      M.bind (evP P hc xc a).2 fun k => if k then (evP P hc xc b).2 else M.pure false)
  | .or a b => (fun md => M.bind ((evP P hc xc a).1 0) fun x => match x with | .bl false => (evP P hc xc b).1 md | .bl true => M.pure (.bl true) | _ => bad,
      M.bind (evP P hc xc a).2 fun k => if k then M.pure true else (evP P hc xc b).2)
  | .not a => (fun _ => M.bind ((evP P hc xc a).1 0) fun x => match x with | .bl b => M.pure (.bl (!b)) | _ => bad, M.bind (evP P hc xc a).2 fun k => M.pure (!k))
  | .ife c a b => (fun md => M.bind (evP P hc xc c).2 fun k => if k then (evP P hc xc a).1 md else (evP P hc xc b).1 md, M.bind (evP P hc xc c).2 fun k => if k then (evP P hc xc a).2 else (evP P hc xc b).2)
  | .star _ => dv fun _ => bad
  | .lst es => dv fun md => M.bind (evL P hc xc es (md - 1)) fun xs => if xs.length ≤ sizeLine then new md (.lst xs) else bad
  | .tup es => dv fun _ => M.bind (evL P hc xc es 0) fun xs => if xs.length ≤ sizeLine then M.pure (.tup xs) else bad
  | .dic dm ks es => dv fun md => M.bind (evL P hc xc es (md + dm - 1)) fun xs => if xs.length = ks.length ∧ ks.Nodup ∧ ks.length ≤ 15 then new (md + dm) (.dK ks xs) else bad
  | .lc own tg k its ifs elt => dv fun md => lcM own tg md (wkM k (evL P hc xc its 0)) (evTs P hc xc ifs) ((evP P hc xc elt).1 (md - 1))
  | .lc2 own own1 tg k its ifs tg1 k1 its1 ifs1 elt => dv fun md => lc2M own tg md (wkM k (evL P hc xc its 0)) (evTs P hc xc ifs) (wkM k1 (evL P hc xc its1 0)) own1 tg1 (evTs P hc xc ifs1) ((evP P hc xc elt).1 (md - 1))
  | .call f es => dv fun md => M.bind (evL P hc xc es 0) fun ds => callP P hc f ds md
  | .callK f n es us => dv fun md => M.bind (evL P hc xc es 0) fun ds => M.bind (evL P hc xc us 0) fun vs => if ds.length = n then callP P hc f (ds ++ vs) md else bad
  | .make dm c es => dv fun md => M.bind (evL P hc xc es 0) fun ds => makeM P hc c ds (md + dm)
  | .meth o m es => dv fun md => M.bind ((evP P hc xc o).1 0) fun d => M.bind (opS (fun S _ => methD P S d m) ()) fun f => M.bind (evL P hc xc es 0) fun ds => callP P hc f (d :: ds) md
  | .methK o m es ks us => dv fun md => M.bind ((evP P hc xc o).1 0) fun d => M.bind (opS (fun S _ => methD P S d m) ()) fun f => M.bind (evL P hc xc es 0) fun ds => M.bind (evL P hc xc us 0) fun vs => if (P.fns[f]?).map (fun q => q.ps.drop (ds.length + 1)) = some ks then callP P hc f (d :: (ds ++ vs)) md else bad
  | .attr o f => dv fun _ => M.bind ((evP P hc xc o).1 0) fun d => opS (fun S _ => attrD P S d f) ()
  | .sub o i => dv fun _ => M.bind ((evP P hc xc o).1 0) fun d => M.bind ((evP P hc xc i).1 0) fun e => opS (fun S _ => subD S d e) ()
  | .sl o lo hi es => dv fun md => M.bind ((evP P hc xc o).1 0) fun d => M.bind (evL P hc xc es 0) fun is => M.bind (liftO (optI is lo hi)) fun p => M.bind (opS (fun S _ => slD S d p.1 p.2) ()) (fin md)
  | .blt b es => dv fun md => M.bind (evL P hc xc es 0) fun ds => M.bind (opS (fun S _ => bltD S b ds) ()) (fin md)
  | .isi a ts => dv fun _ => M.bind ((evP P hc xc a).1 0) fun d => M.bind (opS (fun S _ => isiD P S d ts) ()) fun k => M.pure (.bl k)
  | .bm o m es => dv fun md => M.bind ((evP P hc xc o).1 1) fun d => M.bind (opS (fun S _ => lstOk S d) ()) fun _ => M.bind (evL P hc xc es 0) fun ds => bmM m d ds md
  | .exf i f => dv fun _ => exfM i f xc
  | .fnv f => dv fun _ => M.pure (.fn f)
  | .callV i es => dv fun md => M.bind (fnAt P i) fun f => M.bind (evL P hc xc es 0) fun ds => callP P hc f ds md
  | .rev o => dv fun md => M.bind ((evP P hc xc o).1 0) fun d => M.bind (opS (fun S _ => revD S d) ()) (fin md)
  | .ssp o e => dv fun md => M.bind ((evP P hc xc o).1 0) fun d => M.bind (liftO (strD d)) fun a => M.bind ((evP P hc xc e).1 0) fun x => M.bind (liftO ((strD x).bind fun b => splitD a b)) (fin md)
  | .sjn o e => dv fun _ => M.bind ((evP P hc xc o).1 0) fun d => M.bind (liftO (strD d)) fun a => M.bind ((evP P hc xc e).1 0) fun x => opS (fun S _ => joinD S a x) ()
  | .len o => dv fun md => M.bind ((evP P hc xc o).1 0) fun d => lenM P hc d
def evTs (P : Pg) (hc : Hc) (xc : List Str × List D) : List TX → M Bool
  | [] => M.pure true
  | [a] => (evP P hc xc a).2
  | _ :: _ :: _ => bad
def evL (P : Pg) (hc : Hc) (xc : List Str × List D) : List TX → Nat → M (List D)
  | [], _ => M.pure []
  | e :: es, md => match e with
    | .star a => M.bind ((evP P hc xc a).1 0) fun d => M.bind (opS (fun S _ => seqD S d) ()) fun xs =>
      M.bind (evL P hc xc es md) fun ds => M.pure (xs ++ ds)
    | e => M.bind ((evP P hc xc e).1 md) fun d => M.bind (evL P hc xc es md) fun ds => M.pure (d :: ds)
end
abbrev ev (P : Pg) (hc : Hc) (xc : List Str × List D) (md : Nat) (e : TX) : M D := (evP P hc xc e).1 md
abbrev evT (P : Pg) (hc : Hc) (xc : List Str × List D) (e : TX) : M Bool := (evP P hc xc e).2

/-! ### statements -/
inductive Fl where | nx | rt (d : D) | bk | ct
mutual
inductive TS where
  | pass | brk | cnt
  | expr (e : TX)
  | asg (i md : Nat) (e : TX)
  | unp (is : List Nat) (e : TX)
  | par (i j : Nat) (a b : TX)
  | par3 (i j k : Nat) (a b c : TX)
  | put (o i e : TX)
  | fld (o : TX) (f : Str) (e : TX)
  | ite (c : TX) (a b : TB)
  | forr (ws : List Nat) (tg : TG) (k : Wk) (its : List TX) (b : TB)
  | whl (ws : List Nat) (c : TX) (b : TB)
  | ret (e : TX) | retN
  | rse (c : Nat) (es : List TX)
  | tri (b : TB) (hs : TH)
inductive TB where | nil | cons (s : TS) (r : TB)
inductive TH where | nil | cons (c : Nat) (i : Option Nat) (b : TB) (r : TH)
end
/-- o[i] = d -/
def putD (S : List (Option D)) (o i d : D) : Option (List (Option D)) := (cellOf S o).bind fun p => match p.2 with
  | .lst xs => (intD i).bind fun k => (ixN xs.length k).map fun j => S.set p.1 (some (.lst (xs.set j d)))
  | _ => none
/-- o.f = d -/
def fldD (P : Pg) (S : List (Option D)) (o : D) (f : Str) (d : D) : Option (List (Option D)) := (cellOf S o).bind fun p => match p.2 with
  | .obj c ns xs => if plainCl P c && ns.length < 30 then (P.cl c).bind fun q => if f ∈ q.fields then (putFD f d ns xs).map fun z => S.set p.1 (some (.obj c z.1 z.2)) else none else none
  | _ => none
def storeM (o : List (Option D) → Option (List (Option D))) : M Fl := fun s => match o s.S with
  | some S => .ok .nx ⟨s.τ, S⟩
  | none => .bad
def thenM (m k : M Fl) : M Fl := M.bind m fun fl => match fl with | .nx => k | fl => M.pure fl
def forK (k : M Fl) : Fl → M Fl
  | .nx => k
  | .ct => k
  | .bk => M.pure .nx
  | .rt d => M.pure (.rt d)
def forL (turn : D → M Fl) : List D → M Fl
  | [] => M.pure .nx
  | x :: xs => M.bind (turn x) (forK (forL turn xs))
def whlL (c : M Bool) (b : M Fl) : Nat → M Fl
  | 0 => bad
  | n + 1 => M.bind c fun k => if k then M.bind b (forK (whlL c b n)) else M.pure .nx
def rseM (P : Pg) (c : Nat) (ds : List D) : M Fl := fun s => match P.cl c with
  | some q => (match q.exc with
    | some ns => if ds.length = ns.length then .exn c ns ds s else .bad
    | none => .bad)
  | none => .bad
def isUp (P : Pg) (c h : Nat) : Option Bool := match P.cl c with | some q => if q.exc.isSome then some (q.up.contains h) else none | none => none
/-- no slot holds the handled exception -/
def unX (τ : List (Option D)) : List (Option D) := τ.map fun o => match o with | some .exc => none | o => o
def inX (i : Option Nat) (τ : List (Option D)) : List (Option D) := match i with | some j => (unX τ).set j (some .exc) | none => unX τ
def outX (i : Option Nat) (τ : List (Option D)) : List (Option D) := match i with | some j => (unX τ).set j none | none => unX τ
/-- a clause's suite: its name is gone behind it -/
def suiteM (i : Option Nat) (m : M Fl) : M Fl := fun s => match m ⟨inX i s.τ, s.S⟩ with
  | .ok fl s' => .ok fl ⟨outX i s'.τ, s'.S⟩
  | _ => .bad
def hdK (P : Pg) (h : Nat) (i : Option Nat) (ms : List Str → List D → M Fl) (r : Nat → List Str → List D → M Fl) : Nat → List Str → List D → M Fl := fun c ns xs => match isUp P c h with
  | some true => suiteM i (ms ns xs)
  | some false => r c ns xs
  | none => bad
def triM (m : M Fl) (h : Nat → List Str → List D → M Fl) : M Fl := fun s => match m s with
  | .exn c ns xs s' => h c ns xs s'
  | r => r
mutual
def exS (P : Pg) (hc : Hc) (xc : List Str × List D) (rmd : Nat) : TS → M Fl
  | .pass => M.pure .nx
  | .brk => M.pure .bk
  | .cnt => M.pure .ct
  | .expr e => M.bind (ev P hc xc 0 e) fun _ => M.pure .nx
  | .asg i md e => M.bind (ev P hc xc md e) fun d => M.bind (bindT (.one i) d) fun _ => M.pure .nx
  | .unp is e => M.bind (ev P hc xc 0 e) fun d => M.bind (bindT (.tup is) d) fun _ => M.pure .nx
  | .par i j a b => M.bind (evL P hc xc [a, b] 0) fun ds => M.bind (setVs [i, j] ds) fun _ => M.pure .nx
  | .par3 i j k a b c => M.bind (evL P hc xc [a, b, c] 0) fun ds => M.bind (setVs [i, j, k] ds) fun _ => M.pure .nx
  | .put o i e => M.bind (ev P hc xc 0 e) fun v => M.bind (ev P hc xc 0 o) fun d => M.bind (ev P hc xc 0 i) fun k => storeM fun S => putD S d k v
  | .fld o f e => M.bind (ev P hc xc 0 e) fun v => M.bind (ev P hc xc 0 o) fun d => storeM fun S => fldD P S d f v
  | .ite c a b => M.bind (evT P hc xc c) fun k => if k then exB P hc xc rmd a else exB P hc xc rmd b
  | .forr ws tg k its b => M.bind (wipeM ws) fun _ => M.bind (wkM k (evL P hc xc its 0)) fun src => forL (fun x => M.bind (bindT tg x) fun _ => wipeA ws (exB P hc xc rmd b)) src
  | .whl ws c b => M.bind (wipeM ws) fun _ => whlL (evT P hc xc c) (wipeA ws (exB P hc xc rmd b)) P.fu
  | .ret e => M.bind (ev P hc xc rmd e) fun d => M.pure (.rt d)
  | .retN => M.pure (.rt .non)
  | .rse c es => M.bind (evL P hc xc es 0) fun ds => rseM P c ds
  | .tri b hs => triM (exB P hc xc rmd b) (exH P hc rmd hs)
def exB (P : Pg) (hc : Hc) (xc : List Str × List D) (rmd : Nat) : TB → M Fl
  | .nil => M.pure .nx
  | .cons s r => thenM (exS P hc xc rmd s) (exB P hc xc rmd r)
def exH (P : Pg) (hc : Hc) (rmd : Nat) : TH → Nat → List Str → List D → M Fl
  | .nil => fun c ns xs s => .exn c ns xs s
  | .cons h i b r => hdK P h i (fun ns xs => exB P hc (ns, xs) rmd b) (exH P hc rmd r)
end
end Gc

end

section
set_option Elab.async false
set_option linter.all false
set_option maxRecDepth 100000
set_option maxHeartbeats 1000000
/-! the interpreter is sound: expressions -/
namespace Gc
open PySem PySem.Spec L2

structure At (K : PySem.W.Frag) (cl : CL) (R : RC) (σ : St) (τ : List (Option D)) : Prop where
  K : R.K = K
  cl : R.cl = cl
  cells : Cells R
  slots : Slots R σ τ
theorem At.new {K : PySem.W.Frag} {cl : CL} {R : RC} {σ : St} {τ : List (Option D)} (a : At K cl R σ τ) {p : Addr} {o : HO} (hp : R.H p = none) : At K cl (R.upd p o) σ τ :=
  ⟨a.K, a.cl, a.cells.new hp, a.slots.ext (Ext.new hp)⟩
/-- an exception of the class c with its attributes -/
def RepX (R : RC) (c : Nat) (ns : List Str) (xs : List D) (cls : Value) (dd : Option Addr) : Prop :=
  cls = .ref (R.cl c) ∧ ((ns = [] ∧ xs = [] ∧ dd = none) ∨ ∃ d fs, dd = some d ∧ R.H d = some (.xd fs) ∧ R.NL d ∧ fs.map (·.1) = ns ∧ RepL R (fs.map (·.2)) xs)

theorem M.bind_assoc {α β γ : Type} (m : M α) (f : α → M β) (g : β → M γ) : M.bind (M.bind m f) g = M.bind m fun a => M.bind (f a) g := by
  funext s
  show (match (match m s with | .ok a s' => f a s' | .exn c ns xs s' => .exn c ns xs s' | .bad => .bad) with | .ok a s' => g a s' | .exn c ns xs s' => .exn c ns xs s' | .bad => .bad) = (match m s with | .ok a s' => M.bind (f a) g s' | .exn c ns xs s' => .exn c ns xs s' | .bad => .bad)
  cases m s <;> rfl
abbrev Rel (α β : Type) := RC → β → α → Prop
abbrev relD : Rel D V := fun R v d => Rep R v d
abbrev relB : Rel Bool Bool := fun _ b k => b = k
abbrev relL : Rel (List D) (List V) := fun R vs ds => RepL R vs ds
def Mono {α β : Type} (rel : Rel α β) : Prop := ∀ R R' b a, Ext R R' → rel R b a → rel R' b a
theorem mono_D : Mono relD := fun _ _ _ _ x h => Rep.ext x h
theorem mono_L : Mono relL := fun _ _ _ _ x h => RepL.ext x h
theorem mono_B : Mono relB := fun _ _ _ _ _ h => h

section
variable {α β γ δ : Type} {rel : Rel α β} {rel2 : Rel γ δ} {K : PySem.W.Frag} {cl : CL} {W : WX} {R : RC} {σ : St} {τ : List (Option D)}

def rdAt (rel : Rel α β) (K : PySem.W.Frag) (cl : CL) (W : WX) (R : RC) (τ : List (Option D)) (m : M α) (σ : St) (Q : β → Hp → Prop) : Prop :=
  match m ⟨τ, R.S⟩ with
  | .ok a s => ∀ b R', Ext R R' → R'.S = s.S → At K cl R' σ s.τ → rel R' b a → Q b R'.H
  | .exn c ns xs s => ∀ R' cls dd, Ext R R' → R'.S = s.S → At K cl R' σ s.τ → RepX R' c ns xs cls dd → W cls dd σ R'.H
  | .bad => False
def rd (rel : Rel α β) (K : PySem.W.Frag) (cl : CL) (W : WX) (m : M α) : St → Hp → (β → Hp → Prop) → Prop := fun σ H Q => ∃ R τ, R.H = H ∧ At K cl R σ τ ∧ rdAt rel K cl W R τ m σ Q
/-- what stands behind m, f to come -/
def Behind (rel : Rel α β) (rel2 : Rel γ δ) (K : PySem.W.Frag) (cl : CL) (W : WX) (R : RC) (σ : St) (f : α → M γ) (Q : δ → Hp → Prop) : β → Hp → Prop :=
  fun b H1 => ∃ R1 τ1 a, R1.H = H1 ∧ Ext R R1 ∧ At K cl R1 σ τ1 ∧ rel R1 b a ∧ rdAt rel2 K cl W R1 τ1 (f a) σ Q

theorem rdAt_mono {m : M α} {Q Q' : β → Hp → Prop} (h : rdAt rel K cl W R τ m σ Q) (w : ∀ b H, Q b H → Q' b H) : rdAt rel K cl W R τ m σ Q' := by
  unfold rdAt at h ⊢
  split at h
  · exact fun b R' x e A r => w _ _ (h b R' x e A r)
  · exact h
  · exact h
theorem rdAt_bind {m : M α} {f : α → M γ} {Q : δ → Hp → Prop} (h : rdAt rel2 K cl W R τ (M.bind m f) σ Q) : rdAt rel K cl W R τ m σ (Behind rel rel2 K cl W R σ f Q) := by
  unfold rdAt at h ⊢
  unfold M.bind at h
  cases hm : m ⟨τ, R.S⟩ with
  | ok a s =>
    rw [hm] at h
    dsimp only at h ⊢
    intro b R1 x e A r
    refine ⟨R1, s.τ, a, rfl, x, A, r, ?_⟩
    have es : (⟨s.τ, R1.S⟩ : MS) = s := by rw [e]
    unfold rdAt
    rw [es]
    split at h
    · exact fun b R' x' e' A' r' => h b R' (x.trans x') e' A' r'
    · exact fun R' cls dd x' e' A' r' => h R' cls dd (x.trans x') e' A' r'
    · exact h
  | exn c ns xs s =>
    rw [hm] at h
    exact h
  | bad =>
    rw [hm] at h
    exact h
theorem rdAt_pure {a : α} {b : β} {Q : β → Hp → Prop} (h : rdAt rel K cl W R τ (M.pure a) σ Q) (A : At K cl R σ τ) (r : rel R b a) : Q b R.H := h b R (Ext.refl R) rfl A r
theorem rdAt_bad {Q : β → Hp → Prop} (h : rdAt rel K cl W R τ (bad : M α) σ Q) : False := h
theorem rdAt_opS {f : List (Option D) → Unit → Option α} {g : α → M γ} {Q : δ → Hp → Prop} (h : rdAt rel2 K cl W R τ (M.bind (opS f ()) g) σ Q) : ∃ a, f R.S () = some a ∧ rdAt rel2 K cl W R τ (g a) σ Q := by
  unfold rdAt M.bind opS at h
  dsimp only at h
  cases q : f R.S () with
  | some a =>
    rw [q] at h
    exact ⟨a, rfl, h⟩
  | none =>
    rw [q] at h
    exact h.elim
theorem rdAt_opS' {f : List (Option D) → Unit → Option α} {Q : β → Hp → Prop} (h : rdAt rel K cl W R τ (opS f ()) σ Q) : ∃ a, f R.S () = some a ∧ rdAt rel K cl W R τ (M.pure a) σ Q := by
  unfold rdAt opS at h
  dsimp only at h
  cases q : f R.S () with
  | some a =>
    rw [q] at h
    exact ⟨a, rfl, h⟩
  | none =>
    rw [q] at h
    exact h.elim
theorem rdAt_liftO {o : Option α} {g : α → M γ} {Q : δ → Hp → Prop} (h : rdAt rel2 K cl W R τ (M.bind (liftO o) g) σ Q) : ∃ a, o = some a ∧ rdAt rel2 K cl W R τ (g a) σ Q := by
  unfold rdAt M.bind liftO at h
  cases o with
  | some a => exact ⟨a, rfl, h⟩
  | none => exact h.elim
/-- a new list: a tree, or a cell -/
theorem rdAt_new {md : Nat} {d : D} {o : HO} {Q : V → Hp → Prop} (h : rdAt relD K cl W R τ (new md d) σ Q) (A : At K cl R σ τ) (r : RepH R o d) (p : Addr) (hp : R.H p = none) : Q (.ref p) (L2.upd R.H p o) := by
  unfold rdAt new at h
  by_cases hm : md = 0
  · rw [if_pos hm] at h
    dsimp only at h
    exact h (.ref p) (R.upd p o) (Ext.new hp) rfl (A.new hp) (Rep.of_H (R := R.upd p o) upd_same (by
      have n := A.cells.nl hp
      exact n) (RepH.go (Ext.new hp).go r))
  · rw [if_neg hm] at h
    dsimp only at h
    exact h (.ref p) (R.cellNew p o d) (Ext.cellNew hp) rfl ⟨A.K, A.cl, A.cells.cellNew hp r, A.slots.ext (Ext.cellNew hp)⟩ Rep.cellNew
end

/-! ### containers -/
/-- a value that is a container: a tree or a live cell -/
theorem rep_de {R : RC} (c : Cells R) {v : V} {d e : D} (r : Rep R v d) (h : de R.S d = some e) : (∃ n, d = .ref n ∧ ∃ o, v = .ref (R.ρ n) ∧ R.S[n]? = some (some e) ∧ R.H (R.ρ n) = some o ∧ RepH R o e) ∨ (Rep R v e ∧ d = e) := by
  cases d with
  | ref n =>
    unfold Rep at r
    have h' : R.S[n]?.join = some e := h
    have h2 : R.S[n]? = some (some e) := by
      cases q : R.S[n]? with
      | none => rw [q] at h'; cases h'
      | some z => rw [q] at h'; rw [show z = some e from h']
    obtain ⟨o, ho, ro⟩ := c.cell n e h2
    exact .inl ⟨n, rfl, o, r.1, h2, ho, ro⟩
  | _ => cases h; exact .inr ⟨r, rfl⟩
theorem de_lst {R : RC} (c : Cells R) {v : V} {d : D} {xs : List D} (r : Rep R v d) (h : de R.S d = some (.lst xs)) : ∃ a vs, v = .ref a ∧ R.H a = some (.lst vs) ∧ RepL R vs xs := by
  rcases rep_de c r h with ⟨n, _, o, e, _, ho, ro⟩ | ⟨r, _⟩
  · obtain ⟨vs, eo, rr⟩ := ro
    subst eo
    exact ⟨_, vs, e, ho, rr⟩
  · unfold Rep at r
    obtain ⟨a, vs, e, hh, _, rr⟩ := r
    exact ⟨a, vs, e, hh, rr⟩
theorem de_tup {R : RC} (c : Cells R) {v : V} {d : D} {xs : List D} (r : Rep R v d) (h : de R.S d = some (.tup xs)) : ∃ a vs, v = .ref a ∧ R.H a = some (.tup vs) ∧ RepL R vs xs := by
  rcases rep_de c r h with ⟨n, _, o, e, _, ho, ro⟩ | ⟨r, _⟩
  · exact ro.elim
  · unfold Rep at r
    obtain ⟨a, vs, e, hh, _, rr⟩ := r
    exact ⟨a, vs, e, hh, rr⟩
theorem de_str {R : RC} (c : Cells R) {v : V} {d : D} {x : Str} (r : Rep R v d) (h : de R.S d = some (.str x)) : v = .str x := by
  rcases rep_de c r h with ⟨n, _, o, e, _, ho, ro⟩ | ⟨r, _⟩
  · exact ro.elim
  · unfold Rep at r; exact r
theorem de_scr {R : RC} (c : Cells R) {v : V} {d : D} {ns : List Int} (r : Rep R v d) (h : de R.S d = some (.scr ns)) : ∃ a, v = .ref a ∧ SqL R.K R.H a (ns.map V.int) := by
  rcases rep_de c r h with ⟨n, _, o, e, _, ho, ro⟩ | ⟨r, _⟩
  · exact ro.elim
  · unfold Rep at r
    obtain ⟨a, e, ⟨o, hh, _⟩ | q⟩ := r
    · exact ⟨a, e, .inl (.inr ⟨o, hh⟩)⟩
    · exact ⟨a, e, .inr q⟩
theorem de_int {R : RC} {v : V} {i : Int} (r : Rep R v (.int i)) : v = .int i := by unfold Rep at r; exact r
theorem de_bl {R : RC} {v : V} {i : Bool} (r : Rep R v (.bl i)) : v = .bl i := by unfold Rep at r; exact r
theorem de_strv {R : RC} {v : V} {i : Str} (r : Rep R v (.str i)) : v = .str i := by unfold Rep at r; exact r
theorem rep_int {R : RC} {i : Int} : Rep R (.int i) (.int i) := by unfold Rep; rfl
theorem rep_bl {R : RC} {i : Bool} : Rep R (.bl i) (.bl i) := by unfold Rep; rfl
theorem rep_str {R : RC} {i : Str} : Rep R (.str i) (.str i) := by unfold Rep; rfl
theorem rep_non {R : RC} : Rep R .non .non := by unfold Rep; rfl

/-! ### data -/
mutual
theorem toPy_dp {K : PySem.W.Frag} {R : RC} : ∀ (d : D) (v : V) (p : PyData), Rep R v d → toPy d = some p → Dp K R.H v p
  | .non, v, p, r, h => by unfold Rep at r; subst r; simp only [toPy, Option.some.injEq] at h; subst h; exact .non
  | .bl b, v, p, r, h => by unfold Rep at r; subst r; simp only [toPy, Option.some.injEq] at h; subst h; exact .bl b
  | .int b, v, p, r, h => by unfold Rep at r; subst r; simp only [toPy, Option.some.injEq] at h; subst h; exact .int b
  | .str b, v, p, r, h => by unfold Rep at r; subst r; simp only [toPy, Option.some.injEq] at h; subst h; exact .str b
  | .lst xs, v, p, r, h => by
    unfold Rep at r
    obtain ⟨a, vs, e, hh, _, rr⟩ := r
    subst e
    cases q : toPys xs with
    | none => simp only [toPy, q] at h; cases h
    | some ps =>
      simp only [toPy, q, Option.map_some, Option.some.injEq] at h
      subst h
      exact .lst (SqL.of hh) (toPys_dp xs vs ps rr q)
  | .tup xs, v, p, r, h => by
    unfold Rep at r
    obtain ⟨a, vs, e, hh, _, rr⟩ := r
    subst e
    cases q : toPys xs with
    | none => simp only [toPy, q] at h; cases h
    | some ps =>
      simp only [toPy, q, Option.map_some, Option.some.injEq] at h
      subst h
      exact .tup (SqT.of hh) (toPys_dp xs vs ps rr q)
  | .dK _ _, v, p, r, h => by simp [toPy] at h
  | .dT _ _, v, p, r, h => by simp [toPy] at h
  | .obj _ _ _, v, p, r, h => by simp [toPy] at h
  | .ref _, v, p, r, h => by simp [toPy] at h
  | .scr _, v, p, r, h => by simp [toPy] at h
  | .fn _, v, p, r, h => by simp [toPy] at h
theorem toPys_dp {K : PySem.W.Frag} {R : RC} : ∀ (ds : List D) (vs : List V) (ps : List PyData), RepL R vs ds → toPys ds = some ps → DpAll K R.H vs ps
  | [], vs, ps, r, h => by
    unfold RepL at r
    subst r
    simp only [toPys, Option.some.injEq] at h
    subst h
    exact .nil
  | d :: ds, vs, ps, r, h => by
    unfold RepL at r
    obtain ⟨v, w, e, r1, r2⟩ := r
    subst e
    simp only [toPys] at h
    cases q1 : toPy d with
    | none => rw [q1] at h; cases h
    | some p =>
      rw [q1] at h
      cases q2 : toPys ds with
      | none => rw [q2] at h; cases h
      | some qs =>
        rw [q2] at h
        simp only [Option.bind_some, Option.map_some, Option.some.injEq] at h
        subst h
        exact .cons (toPy_dp d v p r1 q1) (toPys_dp ds w qs r2 q2)
end
theorem de_dp {K : PySem.W.Frag} {R : RC} (c : Cells R) {v : V} {d e : D} {p : PyData} (r : Rep R v d) (h : de R.S d = some e) (q : toPy e = some p) : Dp K R.H v p := by
  rcases rep_de c r h with ⟨n, _, o, ev, _, ho, ro⟩ | ⟨r, _⟩
  · subst ev
    cases e with
    | lst xs =>
      obtain ⟨vs, eo, rr⟩ := ro
      subst eo
      cases q2 : toPys xs with
      | none => simp only [toPy, q2] at q; cases q
      | some ps =>
        simp only [toPy, q2, Option.map_some, Option.some.injEq] at q
        subst q
        exact .lst (SqL.of ho) (toPys_dp xs vs ps rr q2)
    | _ => first | exact ro.elim | (simp [toPy] at q)
  · exact toPy_dp e v p r q
end Gc

end

section
set_option Elab.async false
set_option linter.all false
set_option maxRecDepth 100000
set_option maxHeartbeats 1000000
/-! the interpreter is sound: expressions, first part -/
namespace Gc
open PySem PySem.Spec L2

abbrev SE (X : Cx) (cl : CL) (W : WX) (e : Expr) (m : M D) : Prop := PE X e (rd relD X.K cl W m)
abbrev ST (X : Cx) (cl : CL) (W : WX) (e : Expr) (m : M Bool) : Prop := PT X e (rd relB X.K cl W m)
abbrev SA (X : Cx) (cl : CL) (W : WX) (es : List Expr) (m : M (List D)) : Prop := PA X es (rd relL X.K cl W m)

theorem PE.weak {X : Cx} {e : Expr} {t t' : TE} (h : PE X e t) (w : ∀ σ H Q, t' σ H Q → t σ H Q) : PE X e t' := ⟨fun pins s σ H Q I hh => h.run pins s σ H Q I (w σ H Q hh)⟩
theorem PT.weak {X : Cx} {e : Expr} {t t' : TT} (h : PT X e t) (w : ∀ σ H Q, t' σ H Q → t σ H Q) : PT X e t' := ⟨fun pins s σ H Q I hh => h.run pins s σ H Q I (w σ H Q hh)⟩
theorem PW.weak {X : Cx} {e : Expr} {t t' : TT} (h : PW X e t) (w : ∀ σ H Q, t' σ H Q → t σ H Q) : PW X e t' := ⟨fun wh pins s σ H Q I hh => h.run wh pins s σ H Q I (w σ H Q hh)⟩
theorem PA.weak {X : Cx} {e : List Expr} {t t' : TA} (h : PA X e t) (w : ∀ σ H Q, t' σ H Q → t σ H Q) : PA X e t' := ⟨fun pos pins s σ H Q I hh => h.run pos pins s σ H Q I (w σ H Q hh)⟩
theorem OpR.imp {X : Cx} {f : Value → Value → Sem Value} {r r' : R2} (h : OpR X f r) (w : ∀ x y H Q, r' x y H Q → r x y H Q) : OpR X f r' := fun pins s σ H x y v u Q I rx ry hh => h pins s σ H x y v u Q I rx ry (w x y H Q hh)
theorem CallR.imp {X : Cx} {f : Value} {r r' : List V → Hp → VK → Prop} (h : CallR X f r) (w : ∀ xs H Q, r' xs H Q → r xs H Q) : CallR X f r' := fun pins s σ H xs us Q I rx hh => h pins s σ H xs us Q I rx (w xs H Q hh)

theorem Slots.retag {R : RC} {σ : St} {τ : List (Option D)} {i : Nat} {v : V} {d : D} (h : Slots R σ τ) (e : σ[i]? = some (some v)) (r : Rep R v d) : Slots R σ (τ.set i (some d)) := by
  refine ⟨by rw [List.length_set]; exact h.1, fun j e' q => ?_⟩
  by_cases hj : i = j
  · subst hj
    by_cases hi : i < τ.length
    · rw [List.getElem?_set_self hi] at q
      cases q
      exact ⟨v, e, .inl r⟩
    · rw [List.getElem?_eq_none (by simpa using hi)] at q
      cases q
  · rw [List.getElem?_set_ne hj] at q
    exact h.2 j e' q

section
variable {X : Cx} {cl : CL} {W : WX} {a b c : Expr} {pos : Pos}

/-! ### names, constants -/
theorem se_var {i : Nat} {x : Str} {fz : Bool} (hN : X.N[i]? = some x) (hv : Vis X.env.scope x) (hd : (x == ("__debug__" : Str)) = false) (hcd : (x == ("__classdict__" : Str)) = false) : SE X cl W (.Name x pos) (readV i fz) := by
  refine PE.weak (pe_var hN hv hd hcd) fun σ H Q h => ?_
  obtain ⟨R, τ, hH, A, h⟩ := h
  subst hH
  unfold rdAt readV at h
  dsimp only at h
  cases q : τ[i]? with
  | none => rw [q] at h; exact h.elim
  | some o =>
    cases o with
    | none => rw [q] at h; exact h.elim
    | some d =>
      obtain ⟨v, e, r⟩ := A.slots.2 i d q
      have r : Rep R v d := r.resolve_right fun ⟨z, _⟩ => by
        rw [q, z] at h
        exact h
      refine ⟨v, e, ?_⟩
      rw [q] at h
      have plain : (∀ b R', Ext R R' → R'.S = R.S → At X.K cl R' σ τ → relD R' b d → Q b R'.H) → Q v R.H := fun h => h v R (Ext.refl R) rfl A r
      cases d with
      | ref n =>
        dsimp only at h
        cases fz with
        | false => exact plain h
        | true =>
          rw [if_pos rfl] at h
          cases q2 : R.S[n]? with
          | none => rw [q2] at h; exact h.elim
          | some o2 =>
            cases o2 with
            | none => rw [q2] at h; exact h.elim
            | some e2 =>
              rw [q2] at h
              dsimp only at h
              have ev : v = .ref (R.ρ n) := by unfold Rep at r; exact r.1
              have r2 : Rep (R.cellEnd n) v e2 := by rw [ev]; exact Rep.cellEnd A.cells q2
              exact h v (R.cellEnd n) (Ext.cellEnd q2) rfl ⟨A.K, A.cl, A.cells.cellEnd q2, (A.slots.ext (Ext.cellEnd q2)).retag e r2⟩ r2
      | exc => exact h.elim
      | _ => exact plain h
theorem se_con_int {i : Int} {j : Nat} : SE X cl W (.Constant (.int i) j pos) (M.pure (.int i)) :=
  PE.weak pe_int fun σ H Q ⟨R, τ, hH, A, h⟩ => by subst hH; exact rdAt_pure h A rep_int
theorem se_con_bl {i : Bool} {j : Nat} : SE X cl W (.Constant (.bool i) j pos) (M.pure (.bl i)) :=
  PE.weak pe_bl fun σ H Q ⟨R, τ, hH, A, h⟩ => by subst hH; exact rdAt_pure h A rep_bl
theorem se_con_str {i : Str} {j : Nat} : SE X cl W (.Constant (.str i) j pos) (M.pure (.str i)) :=
  PE.weak pe_str fun σ H Q ⟨R, τ, hH, A, h⟩ => by subst hH; exact rdAt_pure h A rep_str
theorem se_con_non {j : Nat} : SE X cl W (.Constant .none j pos) (M.pure .non) :=
  PE.weak pe_non fun σ H Q ⟨R, τ, hH, A, h⟩ => by subst hH; exact rdAt_pure h A rep_non

/-! ### operators -/
variable {ma mb mc : M D}
def rOp (K : PySem.W.Frag) (cl : CL) (W : WX) (m : D → D → M D) : R2 := fun x y H Q => ∃ σ R τ d e, R.H = H ∧ At K cl R σ τ ∧ Rep R x d ∧ Rep R y e ∧ rdAt relD K cl W R τ (m d e) σ Q
/-- two parts, then what is to come -/
theorem two_parts {m : D → D → M D} {σ : St} {H : Hp} {Q : VK} (h : rd relD X.K cl W (M.bind ma fun x => M.bind mb fun y => m x y) σ H Q) :
    tOp (rOp X.K cl W m) (rd relD X.K cl W ma) (rd relD X.K cl W mb) σ H Q := by
  obtain ⟨R, τ, hH, A, h⟩ := h
  refine ⟨R, τ, hH, A, rdAt_mono (rdAt_bind (rel := relD) h) fun x H1 ⟨R1, τ1, d, e1, x1, A1, r1, h1⟩ => ?_⟩
  refine ⟨R1, τ1, e1, A1, rdAt_mono (rdAt_bind (rel := relD) h1) fun y H2 ⟨R2, τ2, e, e2, x2, A2, r2, h2⟩ => ?_⟩
  exact ⟨σ, R2, τ2, d, e, e2, A2, Rep.ext x2 r1, r2, h2⟩
theorem se_op2 {op : Operator} {m : D → D → M D} (ho : OpR X (binaryOp op) (rOp X.K cl W m)) (ha : SE X cl W a ma) (hb : SE X cl W b mb) :
    SE X cl W (.BinOp a op b pos) (M.bind ma fun x => M.bind mb fun y => m x y) := PE.weak (pe_op ho ha hb) fun _ _ _ h => two_parts h

theorem log2_mul {i j : Int} (h : mulOk i j = true) : CMulW i j := by
  unfold mulOk at h
  show i.natAbs.log2 + j.natAbs.log2 < 1000000
  exact of_decide_eq_true h
theorem asList {R : RC} (c : Cells R) {v : V} {d : D} {xs : List D} (r : Rep R v d) (h : de R.S d = some (.lst xs)) : ∃ a vs, v = .ref a ∧ R.H a = some (.lst vs) ∧ RepL R vs xs := de_lst c r h
theorem RepL.rep {R : RC} {xs : List D} {vs : List V} (r : RepL R vs xs) : ∀ k : Nat, RepL R (List.replicate k vs).flatten (List.replicate k xs).flatten
  | 0 => RepL.nil
  | k + 1 => by
    rw [List.replicate_succ, List.replicate_succ, List.flatten_cons, List.flatten_cons]
    exact r.append (RepL.rep r k)
theorem opr_bin {op : Operator} {md : Nat} : OpR X (binaryOp op) (rOp X.K cl W fun x y => M.bind (opS (fun S _ => binD S op x y) ()) (fin md)) := by
  have pureV : ∀ {σ : St} {R : RC} {τ : List (Option D)} {d : D} {v : V} {Q : VK}, rdAt relD X.K cl W R τ (fin md (.v d)) σ Q → At X.K cl R σ τ → Rep R v d → Q v R.H := fun h A r => rdAt_pure h A r
  cases op with
  | Add =>
    refine OpR.imp (op_add.or (op_add_str.or op_cat)) fun x y H Q ⟨σ, R, τ, d, e, hH, A, r1, r2, h⟩ => ?_
    subst hH
    obtain ⟨z, hz, h⟩ := rdAt_opS h
    have gen : ∀ xs ys, de R.S d = some (.lst xs) → de R.S e = some (.lst ys) → (if xs.length + ys.length ≤ sizeLine then some (Ov.l (xs ++ ys)) else none) = some z → rCat x y R.H Q := fun xs ys h1 h2 hz => by
      obtain ⟨p, vs, e1, hp, rp⟩ := de_lst A.cells r1 h1
      obtain ⟨q, ws, e2, hq, rq⟩ := de_lst A.cells r2 h2
      by_cases hl : xs.length + ys.length ≤ sizeLine
      · rw [if_pos hl] at hz
        cases hz
        exact ⟨p, q, vs, ws, e1, e2, hp, hq, by rw [rp.length, rq.length]; exact hl, rdAt_new h A ⟨_, rfl, rp.append rq⟩⟩
      · rw [if_neg hl] at hz
        cases hz
    have gen2 : (match de R.S d, de R.S e with
        | some (.lst xs), some (.lst ys) => if xs.length + ys.length ≤ sizeLine then some (Ov.l (xs ++ ys)) else none
        | _, _ => none) = some z → rCat x y R.H Q := fun hz => by
      split at hz
      · rename_i xs ys h1 h2
        exact gen xs ys h1 h2 hz
      · cases hz
    cases d with
    | int i =>
      cases e with
      | int j => cases hz; exact .inl ⟨i, j, de_int r1, de_int r2, pureV h A rep_int⟩
      | _ => exact .inr (.inr (gen2 hz))
    | str i =>
      cases e with
      | str j =>
        have hz' : (if i.length + j.length ≤ sizeLine then some (Ov.v (.str (i ++ j))) else none) = some z := hz
        by_cases hl : i.length + j.length ≤ sizeLine
        · rw [if_pos hl] at hz'
          cases hz'
          exact .inr (.inl ⟨i, j, de_strv r1, de_strv r2, hl, pureV h A rep_str⟩)
        · rw [if_neg hl] at hz'
          cases hz'
      | _ => exact .inr (.inr (gen2 hz))
    | _ => cases e <;> exact .inr (.inr (gen2 hz))
  | Sub =>
    refine OpR.imp op_sub fun x y H Q ⟨σ, R, τ, d, e, hH, A, r1, r2, h⟩ => ?_
    subst hH
    obtain ⟨z, hz, h⟩ := rdAt_opS h
    cases d with
    | int i =>
      cases e with
      | int j => cases hz; exact ⟨i, j, de_int r1, de_int r2, pureV h A rep_int⟩
      | _ => cases hz
    | _ => cases e <;> cases hz
  | Mult =>
    refine OpR.imp (op_mulW.or op_rep) fun x y H Q ⟨σ, R, τ, d, e, hH, A, r1, r2, h⟩ => ?_
    subst hH
    obtain ⟨z, hz, h⟩ := rdAt_opS h
    have gen : ∀ k : Int, e = .int k → (match de R.S d with
        | some (.lst xs) => if -(2 ^ 63) ≤ k ∧ k < 2 ^ 63 ∧ xs.length * k.toNat ≤ sizeLine then some (Ov.l (List.replicate k.toNat xs).flatten) else none
        | _ => none) = some z → rRep x y R.H Q := fun k ek hz2 => by
      rw [ek] at r2
      split at hz2
      · rename_i xs h1
        obtain ⟨p, vs, e1, hp, rp⟩ := de_lst A.cells r1 h1
        by_cases hl : -(2 ^ 63) ≤ k ∧ k < 2 ^ 63 ∧ xs.length * k.toNat ≤ sizeLine
        · rw [if_pos hl] at hz2
          cases hz2
          exact ⟨p, k, vs, e1, de_int r2, hp, hl.1, hl.2.1, by rw [rp.length]; exact hl.2.2, rdAt_new h A ⟨_, rfl, rp.rep _⟩⟩
        · rw [if_neg hl] at hz2
          cases hz2
      · cases hz2
    cases e with
    | int j =>
      cases d with
      | int i =>
        have hz' : (if mulOk i j then some (Ov.v (.int (i * j))) else none) = some z := hz
        by_cases hl : mulOk i j = true
        · rw [if_pos hl] at hz'
          cases hz'
          exact .inl ⟨i, j, de_int r1, de_int r2, log2_mul hl, pureV h A rep_int⟩
        · rw [if_neg hl] at hz'
          cases hz'
      | _ => exact .inr (gen j rfl hz)
    | _ => cases d <;> cases hz
  | FloorDiv =>
    refine OpR.imp op_fdivW fun x y H Q ⟨σ, R, τ, d, e, hH, A, r1, r2, h⟩ => ?_
    subst hH
    obtain ⟨z, hz, h⟩ := rdAt_opS h
    cases d with
    | int i =>
      cases e with
      | int j =>
        have hz' : (if 0 < j ∧ j.natAbs.log2 < 9000 then some (Ov.v (.int (i / j))) else none) = some z := hz
        by_cases hl : 0 < j ∧ j.natAbs.log2 < 9000
        · rw [if_pos hl] at hz'
          cases hz'
          exact ⟨i, j, de_int r1, de_int r2, hl, pureV h A rep_int⟩
        · rw [if_neg hl] at hz'
          cases hz'
      | _ => cases hz
    | _ => cases e <;> cases hz
  | Mod =>
    refine OpR.imp op_mod fun x y H Q ⟨σ, R, τ, d, e, hH, A, r1, r2, h⟩ => ?_
    subst hH
    obtain ⟨z, hz, h⟩ := rdAt_opS h
    cases d with
    | int i =>
      cases e with
      | int j =>
        have hz' : (if 0 < j then some (Ov.v (.int (i % j))) else none) = some z := hz
        by_cases hl : 0 < j
        · rw [if_pos hl] at hz'
          cases hz'
          exact ⟨i, j, de_int r1, de_int r2, hl, pureV h A rep_int⟩
        · rw [if_neg hl] at hz'
          cases hz'
      | _ => cases hz
    | _ => cases e <;> cases hz
  | Pow =>
    have op_powW : OpR X (binaryOp .Pow) (rI (fun i j => 0 ≤ j ∧ (Builtin.Int.intBits i : Int) * j ≤ 2 ^ 27) fun i j => .int (i ^ j.toNat)) := opI fun _ _ _ _ _ _ _ hc q => PyProof.Rows.pow_int hc.1 hc.2 q
    refine OpR.imp op_powW fun x y H Q ⟨σ, R, τ, d, e, hH, A, r1, r2, h⟩ => ?_
    subst hH
    obtain ⟨z, hz, h⟩ := rdAt_opS h
    cases d with
    | int i =>
      cases e with
      | int j =>
        have hz' : (if 0 ≤ j ∧ (Builtin.Int.intBits i : Int) * j ≤ 2 ^ 27 then some (Ov.v (.int (i ^ j.toNat))) else none) = some z := hz
        by_cases hl : 0 ≤ j ∧ (Builtin.Int.intBits i : Int) * j ≤ 2 ^ 27
        · rw [if_pos hl] at hz'
          cases hz'
          exact ⟨i, j, de_int r1, de_int r2, hl, pureV h A rep_int⟩
        · rw [if_neg hl] at hz'
          cases hz'
      | _ => cases hz
    | _ => cases e <;> cases hz
  | _ =>
    intro pins s σ0 H x y v u Q I rx ry ⟨σ, R, τ, d, e, hH, A, r1, r2, h⟩
    obtain ⟨z, hz, h⟩ := rdAt_opS h
    cases d <;> cases e <;> cases hz
theorem se_bin {op : Operator} {md : Nat} (ha : SE X cl W a ma) (hb : SE X cl W b mb) :
    SE X cl W (.BinOp a op b pos) (M.bind ma fun x => M.bind mb fun y => M.bind (opS (fun S _ => binD S op x y) ()) (fin md)) := se_op2 opr_bin ha hb
theorem se_neg (ha : SE X cl W a ma) : SE X cl W (.UnaryOp .USub a pos) (M.bind ma fun x => match x with | .int i => M.pure (.int (-i)) | _ => bad) := by
  refine PE.weak (pe_un un_neg ha) fun σ H Q h => ?_
  obtain ⟨R, τ, hH, A, h⟩ := h
  refine ⟨R, τ, hH, A, rdAt_mono (rdAt_bind (rel := relD) h) fun x H1 ⟨R1, τ1, d, e1, x1, A1, r1, h1⟩ => ?_⟩
  subst e1
  cases d with
  | int i => exact ⟨i, de_int r1, rdAt_pure h1 A1 rep_int⟩
  | _ => exact h1.elim
end
end Gc

end

section
set_option Elab.async false
set_option linter.all false
set_option maxRecDepth 100000
set_option maxHeartbeats 1000000
/-! the interpreter is sound: comparisons, tests, displays -/
namespace Gc
open PySem PySem.Spec L2
section
variable {X : Cx} {cl : CL} {W : WX} {a b c : Expr} {pos : Pos} {ma mb mc : M D}

theorem rep_non_iff {R : RC} {v : V} : ∀ {d : D}, Rep R v d → decide (v = .non) = isNonD d
  | .non, r => by unfold Rep at r; subst r; rfl
  | .bl _, r => by unfold Rep at r; subst r; rfl
  | .int _, r => by unfold Rep at r; subst r; rfl
  | .str _, r => by unfold Rep at r; subst r; rfl
  | .lst _, r => by unfold Rep at r; obtain ⟨_, _, e, _⟩ := r; subst e; rfl
  | .tup _, r => by unfold Rep at r; obtain ⟨_, _, e, _⟩ := r; subst e; rfl
  | .dK _ _, r => by unfold Rep at r; obtain ⟨_, _, e, _⟩ := r; subst e; rfl
  | .dT _ _, r => by unfold Rep at r; obtain ⟨_, _, e, _⟩ := r; subst e; rfl
  | .obj _ _ _, r => by unfold Rep at r; obtain ⟨_, _, _, e, _⟩ := r; subst e; rfl
  | .ref _, r => by unfold Rep at r; obtain ⟨e, _⟩ := r; subst e; rfl
  | .scr _, r => by unfold Rep at r; obtain ⟨_, e, _⟩ := r; subst e; rfl
  | .fn _, r => by unfold Rep at r; subst r; rfl

/-- in, of a tuple of data -/
def rInT (K : PySem.W.Frag) : R2 := fun x y H Q => ∃ d ds, Dp K H x d ∧ Dp K H y (.tuple ds) ∧ SeqAt.shaped d = true ∧ SeqAt.shaped (.tuple ds) = true ∧ Q (.bl (ds.any fun z => PyData.eqv z d)) H
def rNotInT (K : PySem.W.Frag) : R2 := fun x y H Q => ∃ d ds, Dp K H x d ∧ Dp K H y (.tuple ds) ∧ SeqAt.shaped d = true ∧ SeqAt.shaped (.tuple ds) = true ∧ Q (.bl (!ds.any fun z => PyData.eqv z d)) H
theorem room_tup {A : Around} {d : PyData} {ds : List PyData} (sd : SeqAt.shaped d = true) (hu : A.units + 100 < cLine) : A.units + 1 + min (PyData.depthAll ds) d.depth < cLine := by
  have h1 := SeqAt.depth_of_shaped sd
  have h2 : min (PyData.depthAll ds) d.depth ≤ d.depth := Nat.min_le_right _ _
  omega
theorem op_inT (hu : X.A.units + 100 < cLine) : OpR X (compareOp .In) (rInT X.K) := by
  intro pins s σ H x y v u Q I rx ry h
  obtain ⟨d, ds, hd, he, sd, se, q⟩ := h
  obtain ⟨as, r1⟩ := Dp.reads I d x v hd rx
  obtain ⟨bs, r2⟩ := Dp.reads I (.tuple ds) y u he ry
  exact SeqAt.in_tuple_reads r2 r1 (SeqAt.canLay_of_shaped se) (SeqAt.canLay_of_shaped sd) (room_tup sd hu) ⟨.bl _, H, I, rfl, q⟩
theorem op_notInT (hu : X.A.units + 100 < cLine) : OpR X (compareOp .NotIn) (rNotInT X.K) := by
  intro pins s σ H x y v u Q I rx ry h
  obtain ⟨d, ds, hd, he, sd, se, q⟩ := h
  obtain ⟨as, r1⟩ := Dp.reads I d x v hd rx
  obtain ⟨bs, r2⟩ := Dp.reads I (.tuple ds) y u he ry
  exact SeqAt.notIn_tuple_reads r2 r1 (SeqAt.canLay_of_shaped se) (SeqAt.canLay_of_shaped sd) (room_tup sd hu) ⟨.bl _, H, I, rfl, q⟩

theorem isSign_eq {x : Str} {c : Nat} (h : isSign x = some c) : x = ⟨#[c]⟩ := by
  unfold isSign at h
  split at h
  · rename_i c' e
    cases h
    obtain ⟨cps⟩ := x
    have : cps = #[c] := by
      have e' : cps.toList = [c] := e
      rw [← Array.toArray_toList (xs := cps), e']
    rw [this]
  · cases h
/-- what in finds -/
inductive InCase (K : PySem.W.Frag) (H : Hp) (x y : V) : Bool → Prop where
  | str (c : Nat) (z : Str) (e1 : x = .str ⟨#[c]⟩) (e2 : y = .str z) : InCase K H x y (decide (c ∈ z.cps.toList))
  | lst (d : PyData) (ds : List PyData) (h1 : Dp K H x d) (h2 : Dp K H y (.list ds)) (s1 : SeqAt.shaped d = true) (s2 : SeqAt.shaped (.list ds) = true) : InCase K H x y (ds.any fun z => PyData.eqv z d)
  | tup (d : PyData) (ds : List PyData) (h1 : Dp K H x d) (h2 : Dp K H y (.tuple ds)) (s1 : SeqAt.shaped d = true) (s2 : SeqAt.shaped (.tuple ds) = true) : InCase K H x y (ds.any fun z => PyData.eqv z d)
theorem inD_case {K : PySem.W.Frag} {R : RC} (C : Cells R) {x y : V} {d e : D} {k : Bool} (r1 : Rep R x d) (r2 : Rep R y e) (h : cmpD.inD R.S d e = some k) : InCase K R.H x y k := by
  unfold cmpD.inD at h
  split at h
  · rename_i z hz
    cases d with
    | str i =>
      dsimp only at h
      cases q : isSign i with
      | none => rw [q] at h; cases h
      | some c =>
        rw [q] at h
        cases h
        exact .str c z (by rw [← isSign_eq q]; exact de_strv r1) (de_str C r2 hz)
    | _ => cases h
  · rename_i ys hy
    cases q1 : de R.S d with
    | none => rw [q1] at h; cases h
    | some d' =>
      rw [q1] at h
      cases q2 : toPy d' with
      | none => simp only [Option.bind_some, q2] at h; cases h
      | some p =>
        cases q3 : toPys ys with
        | none => simp only [Option.bind_some, q2, q3] at h; cases h
        | some qs =>
          simp only [Option.bind_some, q2, q3] at h
          split at h
          · rename_i hs
            cases h
            obtain ⟨s1, s2⟩ := Bool.and_eq_true_iff.mp hs
            exact .lst p qs (de_dp C r1 q1 q2) (de_dp C r2 hy (by simp only [toPy, q3, Option.map_some])) s1 s2
          · cases h
  · rename_i ys hy
    cases q1 : de R.S d with
    | none => rw [q1] at h; cases h
    | some d' =>
      rw [q1] at h
      cases q2 : toPy d' with
      | none => simp only [Option.bind_some, q2] at h; cases h
      | some p =>
        cases q3 : toPys ys with
        | none => simp only [Option.bind_some, q2, q3] at h; cases h
        | some qs =>
          simp only [Option.bind_some, q2, q3] at h
          split at h
          · rename_i hs
            cases h
            obtain ⟨s1, s2⟩ := Bool.and_eq_true_iff.mp hs
            exact .tup p qs (de_dp C r1 q1 q2) (de_dp C r2 hy (by simp only [toPy, q3, Option.map_some])) s1 s2
          · cases h
  · cases h
theorem eqPy_case {K : PySem.W.Frag} {R : RC} (C : Cells R) {x y : V} {d e : D} {k : Bool} (r1 : Rep R x d) (r2 : Rep R y e) (h : eqPy R.S d e = some k) :
    ∃ p q, Dp K R.H x p ∧ Dp K R.H y q ∧ SeqAt.shaped p = true ∧ SeqAt.shaped q = true ∧ k = PyData.eqv p q := by
  unfold eqPy at h
  cases q1 : de R.S d with
  | none => rw [q1] at h; cases h
  | some d' =>
    cases q2 : de R.S e with
    | none => simp only [q1, Option.bind_some, q2] at h; cases h
    | some e' =>
      cases q3 : toPy d' with
      | none => simp only [q1, Option.bind_some, q2, q3] at h; cases h
      | some p =>
        cases q4 : toPy e' with
        | none => simp only [q1, Option.bind_some, q2, q3, q4] at h; cases h
        | some q =>
          simp only [q1, Option.bind_some, q2, q3, q4] at h
          split at h
          · rename_i hs
            cases h
            obtain ⟨s1, s2⟩ := Bool.and_eq_true_iff.mp hs
            exact ⟨p, q, de_dp C r1 q1 q3, de_dp C r2 q2 q4, s1, s2, rfl⟩
          · cases h
/-! ### == item by item -/
theorem sameRef_eq {d e : D} (h : sameRef d e = true) : ∃ n, d = .ref n ∧ e = .ref n := by
  unfold sameRef at h
  split at h
  · rename_i i j
    exact ⟨i, rfl, by rw [eq_of_beq h]⟩
  · cases h
theorem eqIs_len {f : D → D → Option Bool} : ∀ {xs ys : List D} {k : Bool}, eqIs f xs ys = some k → xs.length = ys.length
  | [], [], _, _ => rfl
  | [], _ :: _, _, h => by cases h
  | _ :: _, [], _, h => by cases h
  | x :: xs, y :: ys, k, h => by
    unfold eqIs at h
    cases q : f x y with
    | none => rw [q] at h; cases h
    | some a =>
      rw [q] at h
      cases q2 : eqIs f xs ys with
      | none => simp only [Option.bind_some, q2, Option.map_none] at h; cases h
      | some b => rw [List.length_cons, List.length_cons, eqIs_len q2]
theorem eqIs_at {f : D → D → Option Bool} : ∀ {xs ys : List D} {k : Bool}, eqIs f xs ys = some k → ∃ e : Nat → Bool, (List.range xs.length).all e = k ∧ ∀ (j : Nat) (x y : D), xs[j]? = some x → ys[j]? = some y → f x y = some (e j)
  | [], [], k, h => by cases h; exact ⟨fun _ => true, rfl, fun j x y h => by simp at h⟩
  | [], _ :: _, _, h => by cases h
  | _ :: _, [], _, h => by cases h
  | x :: xs, y :: ys, k, h => by
    unfold eqIs at h
    cases q : f x y with
    | none => rw [q] at h; cases h
    | some a =>
      rw [q] at h
      cases q2 : eqIs f xs ys with
      | none => simp only [Option.bind_some, q2, Option.map_none] at h; cases h
      | some b =>
        simp only [Option.bind_some, q2, Option.map_some, Option.some.injEq] at h
        obtain ⟨e, h1, h2⟩ := eqIs_at q2
        refine ⟨fun j => match j with | 0 => a | j + 1 => e j, ?_, fun j x' y' g1 g2 => ?_⟩
        · rw [List.length_cons, List.range_succ_eq_map, List.all_cons, List.all_map]
          subst h
          subst h1
          rfl
        · cases j with
          | zero => simp at g1 g2; subst g1; subst g2; exact q
          | succ j => exact h2 j x' y' (by simpa using g1) (by simpa using g2)
section
variable {pins : List (Addr × Obj)} {σ : St} {s : Shared} {R : RC}
theorem eqPy_at (I : Inv X pins σ R.H s) (C : Cells R) {A : Around} (hu : A.units + 64 < cLine) {d e : D} {k : Bool} {x y : V} {v u : Value} (r1 : Rep R x d) (r2 : Rep R y e) (rx : RelV x v) (ry : RelV y u) (h : eqPy R.S d e = some k) : SeqAt.EqAt A s v u k := by
  obtain ⟨p, q, h1, h2, s1, s2, ek⟩ := eqPy_case (K := X.K) C r1 r2 h
  obtain ⟨as, b1⟩ := Dp.reads I p x v h1 rx
  obtain ⟨bs, b2⟩ := Dp.reads I q y u h2 ry
  subst ek
  exact SeqAt.eqAt_reads p q A s v u as bs b1 b2 (SeqAt.canLay_of_shaped s1) (SeqAt.canLay_of_shaped s2) (SeqAt.room_of_shaped s1 hu)
theorem eqPy_same (I : Inv X pins σ R.H s) (C : Cells R) {d e : D} {k : Bool} {x : V} {v : Value} (r1 : Rep R x d) (r2 : Rep R x e) (rx : RelV x v) (h : eqPy R.S d e = some k) : k = true := by
  obtain ⟨p, q, h1, h2, s1, s2, ek⟩ := eqPy_case (K := X.K) C r1 r2 h
  obtain ⟨as, b1⟩ := Dp.reads I p x v h1 rx
  obtain ⟨bs, b2⟩ := Dp.reads I q x v h2 rx
  have e := SeqAt.Reads.unique p q v as bs (SeqAt.canLay_of_shaped s1) b1 b2
  subst e
  rw [ek]
  exact SeqAt.eqv_refl p (SeqAt.canLay_of_shaped s1)
theorem eqI_same (I : Inv X pins σ R.H s) (C : Cells R) : ∀ (n : Nat) {d e : D} {k : Bool} {x : V}, Rep R x d → Rep R x e → (∃ v, RelV x v) → eqI R.S n d e = some k → k = true
  | 0, d, e, k, x, _, _, _, h => by cases h
  | n + 1, d, e, k, x, r1, r2, ⟨v, rx⟩, h => by
    unfold eqI at h
    split at h
    · cases h; rfl
    · split at h
      · rename_i q
        cases h
        exact eqPy_same I C r1 r2 rx q
      · have go : ∀ {vs : List V} {xs ys : List D}, RepL R vs xs → RepL R vs ys → (∀ x ∈ vs, ∃ v, RelV x v) → eqIs (eqI R.S n) xs ys = some k → k = true := fun {vs xs ys} g1 g2 g3 h => by
          obtain ⟨e, h1, h2⟩ := eqIs_at h
          rw [← h1, List.all_eq_true]
          intro j hj
          rw [List.mem_range] at hj
          have hj2 : j < ys.length := by rw [← g2.length, g1.length]; exact hj
          obtain ⟨w, q1, q2⟩ := g1.get (List.getElem?_eq_getElem hj)
          obtain ⟨w', q1', q2'⟩ := g2.get (List.getElem?_eq_getElem hj2)
          rw [q1] at q1'
          cases q1'
          exact eqI_same I C n q2 q2' (g3 w (List.mem_of_getElem? q1)) (h2 j _ _ (List.getElem?_eq_getElem hj) (List.getElem?_eq_getElem hj2))
        have rel : ∀ {vs : List V} {us : List Value}, Vals vs us → ∀ x ∈ vs, ∃ v, RelV x v := fun {vs us} h => by
          induction h with
          | nil => intro x hx; cases hx
          | cons a b ih => intro x hx; rcases List.mem_cons.mp hx with e | hx; exact ⟨_, e ▸ a⟩; exact ih x hx
        unfold eqSq at h
        split at h
        · rename_i xs ys e1 e2
          obtain ⟨a, vs, ev, hh, rr⟩ := de_lst C r1 e1
          obtain ⟨b, ws, ew, hh2, rr2⟩ := de_lst C r2 e2
          rw [ev] at ew
          cases ew
          rw [hh] at hh2
          cases hh2
          obtain ⟨its, rv, _⟩ := I.list (SqL.of (K := X.K) hh)
          split at h
          · exact go rr rr2 (rel rv) h
          · rename_i hl
            exact absurd (rr.length.symm.trans rr2.length) hl
        · rename_i xs ys e1 e2
          obtain ⟨a, vs, ev, hh, rr⟩ := de_tup C r1 e1
          obtain ⟨b, ws, ew, hh2, rr2⟩ := de_tup C r2 e2
          rw [ev] at ew
          cases ew
          rw [hh] at hh2
          cases hh2
          obtain ⟨its, rv, _⟩ := I.tuple (SqT.of (K := X.K) hh)
          split at h
          · exact go rr rr2 (rel rv) h
          · cases h
        · cases h
theorem vals_at {vs : List V} {us : List Value} (h : Vals vs us) : ∀ {j : Nat} {x : V} {u : Value}, vs[j]? = some x → us[j]? = some u → RelV x u := by
  induction h with
  | nil => intro j x u h; simp at h
  | cons a b ih =>
    intro j x u h1 h2
    cases j with
    | zero => simp at h1 h2; subst h1; subst h2; exact a
    | succ j => exact ih (by simpa using h1) (by simpa using h2)
/-- the parts of two lists or tuples -/
theorem eqSq_parts (I : Inv X pins σ R.H s) (C : Cells R) {f : D → D → Option Bool} {A : Around} (ih : ∀ {d e : D} {k : Bool} {x y : V} {v u : Value}, Rep R x d → Rep R y e → RelV x v → RelV y u → f d e = some k → SeqAt.EqAt A s v u k)
    {vs ws : List V} {us zs : List Value} {xs ys : List D} {k : Bool} (r1 : RepL R vs xs) (r2 : RepL R ws ys) (v1 : Vals vs us) (v2 : Vals ws zs) (h : eqIs f xs ys = some k) :
    ∃ e : Nat → Bool, (List.range us.toArray.size).all e = k ∧ us.toArray.size = zs.toArray.size ∧ ∀ j (h1 : j < us.toArray.size) (h2 : j < zs.toArray.size), SeqAt.EqAt A s us.toArray[j] zs.toArray[j] (e j) := by
  have hl := eqIs_len h
  obtain ⟨e, h1, h2⟩ := eqIs_at h
  have l1 : us.length = xs.length := by rw [← v1.length, r1.length]
  have l2 : zs.length = ys.length := by rw [← v2.length, r2.length]
  refine ⟨e, by simpa [l1] using h1, by simp [l1, l2, hl], fun j g1 g2 => ?_⟩
  have g1' : j < us.length := by simpa using g1
  have g2' : j < zs.length := by simpa using g2
  have j1 : j < xs.length := by omega
  have j2 : j < ys.length := by omega
  obtain ⟨x, q1, q2⟩ := r1.get (List.getElem?_eq_getElem j1)
  obtain ⟨y, q3, q4⟩ := r2.get (List.getElem?_eq_getElem j2)
  have := ih q2 q4 (vals_at v1 q1 (List.getElem?_eq_getElem g1')) (vals_at v2 q3 (List.getElem?_eq_getElem g2')) (h2 j _ _ (List.getElem?_eq_getElem j1) (List.getElem?_eq_getElem j2))
  simpa using this
theorem eqI_at (I : Inv X pins σ R.H s) (C : Cells R) : ∀ (n : Nat) (A : Around), A.units + n + 64 < cLine → ∀ {d e : D} {k : Bool} {x y : V} {v u : Value}, Rep R x d → Rep R y e → RelV x v → RelV y u → eqI R.S n d e = some k → SeqAt.EqAt A s v u k
  | 0, A, _, d, e, k, x, y, v, u, _, _, _, _, h => by cases h
  | n + 1, A, hu, d, e, k, x, y, v, u, r1, r2, rx, ry, h => by
    have same := eqI_same (X := X) I C (n + 1) (d := d) (e := e) (k := k) (x := x) r1
    have hh0 := h
    unfold eqI at h
    split at h
    · rename_i hs
      cases h
      obtain ⟨m, e1, e2⟩ := sameRef_eq hs
      subst e1; subst e2
      unfold Rep at r1 r2
      rw [r1.1] at rx
      rw [r2.1] at ry
      obtain rfl : v = Value.ref (R.ρ m) := rx
      obtain rfl : u = Value.ref (R.ρ m) := ry
      exact SeqAt.EqAt.same _
    · split at h
      · rename_i q
        cases h
        exact eqPy_at I C (by omega) r1 r2 rx ry q
      · have ih : ∀ {d e : D} {k : Bool} {x y : V} {v u : Value}, Rep R x d → Rep R y e → RelV x v → RelV y u → eqI R.S n d e = some k → SeqAt.EqAt A.in1 s v u k := fun a b c d h => eqI_at I C n A.in1 (by show A.units + 1 + n + 64 < cLine; omega) a b c d h
        unfold eqSq at h
        split at h
        · rename_i xs ys e1 e2
          obtain ⟨a, vs, ev, hh, rr⟩ := de_lst C r1 e1
          obtain ⟨b, ws, ew, hh2, rr2⟩ := de_lst C r2 e2
          subst ev; subst ew
          obtain rfl : v = Value.ref a := rx
          obtain rfl : u = Value.ref b := ry
          obtain ⟨us, v1, p1, _⟩ := I.list (SqL.of (K := X.K) hh)
          obtain ⟨zs, v2, p2, _⟩ := I.list (SqL.of (K := X.K) hh2)
          by_cases hab : a = b
          · subst hab
            rw [same r2 ⟨.ref a, rfl⟩ hh0]
            exact SeqAt.EqAt.same _
          · split at h
            · obtain ⟨e, h1, h2, h3⟩ := eqSq_parts I C ih rr rr2 v1 v2 h
              rw [← h1]
              exact SeqAt.EqAt.of_refs hab (SeqAt.RcAt.lists p1.isList p2.isList h2 (by omega) h3)
            · rename_i hl
              cases h
              refine SeqAt.EqAt.of_refs hab (SeqAt.RcAt.lists_lengths p1.isList p2.isList ?_ (by omega))
              have l1 : us.length = xs.length := by rw [← v1.length, rr.length]
              have l2 : zs.length = ys.length := by rw [← v2.length, rr2.length]
              simp only [List.size_toArray, l1, l2, bne_iff_ne]
              exact hl
        · rename_i xs ys e1 e2
          obtain ⟨a, vs, ev, hh, rr⟩ := de_tup C r1 e1
          obtain ⟨b, ws, ew, hh2, rr2⟩ := de_tup C r2 e2
          subst ev; subst ew
          obtain rfl : v = Value.ref a := rx
          obtain rfl : u = Value.ref b := ry
          obtain ⟨us, v1, p1, _⟩ := I.tuple (SqT.of (K := X.K) hh)
          obtain ⟨zs, v2, p2, _⟩ := I.tuple (SqT.of (K := X.K) hh2)
          by_cases hab : a = b
          · subst hab
            rw [same r2 ⟨.ref a, rfl⟩ hh0]
            exact SeqAt.EqAt.same _
          · split at h
            · obtain ⟨e, h1, h2, h3⟩ := eqSq_parts I C ih rr rr2 v1 v2 h
              have key := SeqAt.RcAt.tuples p1 p2 (by omega) h3
              rw [← h2, Nat.min_self, h1] at key
              simp only [beq_self_eq_true, Bool.and_true] at key
              exact SeqAt.EqAt.of_refs hab key
            · cases h
        · cases h
end
theorem compareEq_rc {prog : Program} {w : World} {A : Around} {E : Value → Shared → Prop} {s : Shared} {a b : Value} {k : Bool} {Q : Value → Shared → Prop} (h : SeqAt.RcAt A s a b k) (q : Q (.bool k) s) : wpAny (model prog w) A (compareOp .Eq a b) Q E s := h prog w E Q q
theorem compareNe_rc {prog : Program} {w : World} {A : Around} {E : Value → Shared → Prop} {s : Shared} {a b : Value} {k : Bool} {Q : Value → Shared → Prop} (h : SeqAt.RcNeAt A s a b k) (q : Q (.bool k) s) : wpAny (model prog w) A (compareOp .NotEq a b) Q E s := h prog w E Q q
def rEqG : R2 := fun x y H Q => ∃ R d e k, R.H = H ∧ Cells R ∧ Rep R x d ∧ Rep R y e ∧ eqSq R.S (eqI R.S 30) d e = some k ∧ Q (.bl k) H
def rNeG : R2 := fun x y H Q => ∃ R d e k, R.H = H ∧ Cells R ∧ Rep R x d ∧ Rep R y e ∧ eqSq R.S (eqI R.S 30) d e = some k ∧ Q (.bl !k) H
theorem eqSq_run {pins : List (Addr × Obj)} {σ : St} {s : Shared} {R : RC} (I : Inv X pins σ R.H s) (C : Cells R) (hu : X.A.units + 100 < cLine) {d e : D} {k : Bool} {x y : V} {v u : Value} (r1 : Rep R x d) (r2 : Rep R y e) (rx : RelV x v) (ry : RelV y u)
    (h : eqSq R.S (eqI R.S 30) d e = some k) : SeqAt.RcAt X.A s v u k ∧ SeqAt.RcNeAt X.A s v u (!k) := by
  have ih : ∀ {d e : D} {k : Bool} {x y : V} {v u : Value}, Rep R x d → Rep R y e → RelV x v → RelV y u → eqI R.S 30 d e = some k → SeqAt.EqAt X.A.in1 s v u k := fun a b c d h => eqI_at I C 30 X.A.in1 (by show X.A.units + 1 + 30 + 64 < cLine; omega) a b c d h
  unfold eqSq at h
  split at h
  · rename_i xs ys e1 e2
    obtain ⟨a, vs, ev, hh, rr⟩ := de_lst C r1 e1
    obtain ⟨b, ws, ew, hh2, rr2⟩ := de_lst C r2 e2
    subst ev; subst ew
    obtain rfl : v = Value.ref a := rx
    obtain rfl : u = Value.ref b := ry
    obtain ⟨us, v1, p1, _⟩ := I.list (SqL.of (K := X.K) hh)
    obtain ⟨zs, v2, p2, _⟩ := I.list (SqL.of (K := X.K) hh2)
    split at h
    · obtain ⟨e, h1, h2, h3⟩ := eqSq_parts I C ih rr rr2 v1 v2 h
      rw [← h1]
      exact ⟨SeqAt.RcAt.lists p1.isList p2.isList h2 (by omega) h3, SeqAt.RcNeAt.lists p1.isList p2.isList h2 (by omega) h3⟩
    · rename_i hl
      cases h
      have hs : (us.toArray.size != zs.toArray.size) = true := by
        have l1 : us.length = xs.length := by rw [← v1.length, rr.length]
        have l2 : zs.length = ys.length := by rw [← v2.length, rr2.length]
        simp only [List.size_toArray, l1, l2, bne_iff_ne]
        exact hl
      exact ⟨SeqAt.RcAt.lists_lengths p1.isList p2.isList hs (by omega), SeqAt.RcNeAt.lists_lengths p1.isList p2.isList hs (by omega)⟩
  · rename_i xs ys e1 e2
    obtain ⟨a, vs, ev, hh, rr⟩ := de_tup C r1 e1
    obtain ⟨b, ws, ew, hh2, rr2⟩ := de_tup C r2 e2
    subst ev; subst ew
    obtain rfl : v = Value.ref a := rx
    obtain rfl : u = Value.ref b := ry
    obtain ⟨us, v1, p1, _⟩ := I.tuple (SqT.of (K := X.K) hh)
    obtain ⟨zs, v2, p2, _⟩ := I.tuple (SqT.of (K := X.K) hh2)
    split at h
    · obtain ⟨e, h1, h2, h3⟩ := eqSq_parts I C ih rr rr2 v1 v2 h
      have key := SeqAt.RcAt.tuples p1 p2 (by omega) h3
      have key2 := SeqAt.RcNeAt.tuples p1 p2 (by omega) h3
      rw [← h2, Nat.min_self, h1] at key key2
      simp only [beq_self_eq_true, Bool.and_true] at key key2
      exact ⟨key, key2⟩
    · cases h
  · cases h
theorem op_eqG (hu : X.A.units + 100 < cLine) : OpR X (compareOp .Eq) rEqG := by
  intro pins s σ H x y v u Q I rx ry h
  obtain ⟨R, d, e, k, hH, C, r1, r2, h, q⟩ := h
  subst hH
  exact compareEq_rc (eqSq_run I C hu r1 r2 rx ry h).1 ⟨.bl _, R.H, I, rfl, q⟩
theorem op_neG (hu : X.A.units + 100 < cLine) : OpR X (compareOp .NotEq) rNeG := by
  intro pins s σ H x y v u Q I rx ry h
  obtain ⟨R, d, e, k, hH, C, r1, r2, h, q⟩ := h
  subst hH
  exact compareNe_rc (eqSq_run I C hu r1 r2 rx ry h).2 ⟨.bl _, R.H, I, rfl, q⟩
theorem OpR.or {f : Value → Value → Sem Value} {r r' : R2} (h : OpR X f r) (h' : OpR X f r') : OpR X f (fun x y H Q => r x y H Q ∨ r' x y H Q) := fun pins s σ H x y v u Q I rx ry hh => hh.elim (fun z => h pins s σ H x y v u Q I rx ry z) (fun z => h' pins s σ H x y v u Q I rx ry z)
def rCmp (K : PySem.W.Frag) (cl : CL) (W : WX) (op : CmpOp) (m : D → D → Bool → M D) : R2 := rOp K cl W fun x y => M.bind (opS (fun S _ => cmpD S op x y) ()) (m x y)
/-- a comparison: the answer is known, what is to come holds of it -/
theorem opr_cmp {op : CmpOp} (hu : X.A.units + 100 < cLine) : OpR X (compareOp op) (fun x y H Q => ∃ R d e k, R.H = H ∧ Cells R ∧ Rep R x d ∧ Rep R y e ∧ cmpD R.S op d e = some k ∧ Q (.bl k) H) := by
  have hu' : X.A.units + 64 < cLine := by omega
  cases op with
  | Eq =>
    refine OpR.imp (OpR.or (op_eqD hu') (op_eqG hu)) fun x y H Q ⟨R, d, e, k, hH, C, r1, r2, hk, q⟩ => ?_
    subst hH
    have hk' : eqT R.S d e = some k := hk
    unfold eqT at hk'
    split at hk'
    · rename_i q0
      cases hk'
      obtain ⟨p, q', h1, h2, s1, s2, ek⟩ := eqPy_case (K := X.K) C r1 r2 q0
      subst ek
      exact .inl ⟨p, q', h1, h2, s1, s2, q⟩
    · exact .inr ⟨R, d, e, k, rfl, C, r1, r2, hk', q⟩
  | NotEq =>
    refine OpR.imp (OpR.or (op_neD hu') (op_neG hu)) fun x y H Q ⟨R, d, e, k, hH, C, r1, r2, hk, q⟩ => ?_
    subst hH
    have hk' : (eqT R.S d e).map (!·) = some k := hk
    cases q1 : eqT R.S d e with
    | none => rw [q1] at hk'; cases hk'
    | some k0 =>
      rw [q1] at hk'
      cases hk'
      unfold eqT at q1
      split at q1
      · rename_i q0
        cases q1
        obtain ⟨p, q', h1, h2, s1, s2, ek⟩ := eqPy_case (K := X.K) C r1 r2 q0
        subst ek
        exact .inl ⟨p, q', h1, h2, s1, s2, q⟩
      · exact .inr ⟨R, d, e, k0, rfl, C, r1, r2, q1, q⟩
  | Lt =>
    refine OpR.imp op_lt fun x y H Q ⟨R, d, e, k, hH, C, r1, r2, hk, q⟩ => ?_
    cases d with
    | int i => cases e with
      | int j => cases hk; exact ⟨i, j, de_int r1, de_int r2, q⟩
      | _ => cases hk
    | _ => cases e <;> cases hk
  | LtE =>
    refine OpR.imp op_le fun x y H Q ⟨R, d, e, k, hH, C, r1, r2, hk, q⟩ => ?_
    cases d with
    | int i => cases e with
      | int j => cases hk; exact ⟨i, j, de_int r1, de_int r2, q⟩
      | _ => cases hk
    | _ => cases e <;> cases hk
  | Gt =>
    refine OpR.imp op_gt fun x y H Q ⟨R, d, e, k, hH, C, r1, r2, hk, q⟩ => ?_
    cases d with
    | int i => cases e with
      | int j => cases hk; exact ⟨i, j, de_int r1, de_int r2, q⟩
      | _ => cases hk
    | _ => cases e <;> cases hk
  | GtE =>
    refine OpR.imp op_ge fun x y H Q ⟨R, d, e, k, hH, C, r1, r2, hk, q⟩ => ?_
    cases d with
    | int i => cases e with
      | int j => cases hk; exact ⟨i, j, de_int r1, de_int r2, q⟩
      | _ => cases hk
    | _ => cases e <;> cases hk
  | Is =>
    refine OpR.imp op_isN fun x y H Q ⟨R, d, e, k, hH, C, r1, r2, hk, q⟩ => ?_
    cases e with
    | non =>
      unfold Rep at r2
      refine ⟨r2, ?_⟩
      rw [rep_non_iff r1]
      have hk' : some (isNonD d) = some k := hk
      rw [Option.some.inj hk']
      exact q
    | _ => cases hk
  | IsNot =>
    refine OpR.imp op_notN fun x y H Q ⟨R, d, e, k, hH, C, r1, r2, hk, q⟩ => ?_
    cases e with
    | non =>
      unfold Rep at r2
      refine ⟨r2, ?_⟩
      rw [rep_non_iff r1]
      have hk' : some (!isNonD d) = some k := hk
      rw [Option.some.inj hk']
      exact q
    | _ => cases hk
  | In =>
    refine OpR.imp (op_in_sign.or ((op_inD (by omega)).or (op_inT hu))) fun x y H Q ⟨R, d, e, k, hH, C, r1, r2, hk, q⟩ => ?_
    subst hH
    have z := inD_case (K := X.K) C r1 r2 hk
    cases z with
    | str c z e1 e2 => exact .inl ⟨c, z, e1, e2, q⟩
    | lst d ds h1 h2 s1 s2 => exact .inr (.inl ⟨d, ds, h1, h2, s1, s2, q⟩)
    | tup d ds h1 h2 s1 s2 => exact .inr (.inr ⟨d, ds, h1, h2, s1, s2, q⟩)
  | NotIn =>
    refine OpR.imp (op_notIn_sign.or ((op_notInD (by omega)).or (op_notInT hu))) fun x y H Q ⟨R, d, e, k, hH, C, r1, r2, hk, q⟩ => ?_
    subst hH
    have hk' : (cmpD.inD R.S d e).map (!·) = some k := hk
    cases q0 : cmpD.inD R.S d e with
    | none => rw [q0] at hk'; cases hk'
    | some k0 =>
      rw [q0] at hk'
      cases hk'
      have z := inD_case (K := X.K) C r1 r2 q0
      cases z with
      | str c z e1 e2 => exact .inl ⟨c, z, e1, e2, q⟩
      | lst d ds h1 h2 s1 s2 => exact .inr (.inl ⟨d, ds, h1, h2, s1, s2, q⟩)
      | tup d ds h1 h2 s1 s2 => exact .inr (.inr ⟨d, ds, h1, h2, s1, s2, q⟩)
/-- a written set is never what we look in -/
def notSet : Expr → Bool
  | .Set .. => false
  | _ => true
theorem nomarks {op : CmpOp} {e : Expr} (h : notSet e = true) : behindInMarks op e = false := by
  cases e <;> first | rfl | cases h
abbrev cmpM0 (op : CmpOp) (ma mb : M D) : M D := M.bind ma fun x => M.bind mb fun y => M.bind (opS (fun S _ => cmpD S op x y) ()) fun k => M.pure (.bl k)
theorem cmp_read {op : CmpOp} {σ : St} {H : Hp} {Q : VK} (h : rd relD X.K cl W (cmpM0 op ma mb) σ H Q) :
    tOp (fun x y H Q => ∃ R d e k, R.H = H ∧ Cells R ∧ Rep R x d ∧ Rep R y e ∧ cmpD R.S op d e = some k ∧ Q (.bl k) H) (rd relD X.K cl W ma) (rd relD X.K cl W mb) σ H Q := by
  obtain ⟨R, τ, hH, A, h⟩ := h
  refine ⟨R, τ, hH, A, rdAt_mono (rdAt_bind (rel := relD) h) fun x H1 ⟨R1, τ1, d, e1, x1, A1, r1, h1⟩ => ?_⟩
  refine ⟨R1, τ1, e1, A1, rdAt_mono (rdAt_bind (rel := relD) h1) fun y H2 ⟨R2, τ2, e, e2, x2, A2, r2, h2⟩ => ?_⟩
  subst e2
  obtain ⟨k, hk, h3⟩ := rdAt_opS h2
  exact ⟨R2, d, e, k, rfl, A2.cells, Rep.ext x2 r1, r2, hk, rdAt_pure h3 A2 rep_bl⟩
theorem se_cmp {op : CmpOp} (hu : X.A.units + 100 < cLine) (ha : SE X cl W a ma) (hb : SE X cl W b mb) (hs : notSet b = true) : SE X cl W (.Compare a [op] [b] pos) (cmpM0 op ma mb) :=
  PE.weak (pe_cmpR (opr_cmp hu) ha hb (nomarks hs)) fun _ _ _ h => cmp_read h
/-- the test of a value -/
abbrev truM (m : M D) : M Bool := M.bind m fun d => opS (fun S _ => truD S d) ()
/-- where the value is a bool, the test is it -/
theorem truM_bl {m : M D} {σ : St} {H : Hp} {Q : Bool → Hp → Prop} (h : rd relB X.K cl W (truM m) σ H Q) : rd relD X.K cl W m σ H (fun x H' => ∃ R τ d k, R.H = H' ∧ At X.K cl R σ τ ∧ Rep R x d ∧ truD R.S d = some k ∧ Q k H') := by
  obtain ⟨R, τ, hH, A, h⟩ := h
  refine ⟨R, τ, hH, A, rdAt_mono (rdAt_bind (rel := relD) h) fun x H1 ⟨R1, τ1, d, e1, x1, A1, r1, h1⟩ => ?_⟩
  subst e1
  obtain ⟨k, hk, h2⟩ := rdAt_opS' h1
  exact ⟨R1, τ1, d, k, rfl, A1, r1, hk, rdAt_pure h2 A1 rfl⟩
theorem tru_bl {R : RC} {d : D} {k k' : Bool} (r : Rep R (.bl k') d) (h : truD R.S d = some k) : k = k' := by
  cases d with
  | bl b => unfold Rep at r; cases r; cases h; rfl
  | lst _ => unfold Rep at r; obtain ⟨_, _, e, _⟩ := r; cases e
  | tup _ => unfold Rep at r; obtain ⟨_, _, e, _⟩ := r; cases e
  | dK _ _ => unfold Rep at r; obtain ⟨_, _, e, _⟩ := r; cases e
  | dT _ _ => unfold Rep at r; obtain ⟨_, _, e, _⟩ := r; cases e
  | obj _ _ _ => unfold Rep at r; obtain ⟨_, _, _, e, _⟩ := r; cases e
  | ref _ => unfold Rep at r; obtain ⟨e, _⟩ := r; cases e
  | scr _ => unfold Rep at r; obtain ⟨_, e, _⟩ := r; cases e
  | _ => unfold Rep at r; cases r
theorem st_cmp {op : CmpOp} (hu : X.A.units + 100 < cLine) (ha : SE X cl W a ma) (hb : SE X cl W b mb) (hs : notSet b = true) : ST X cl W (.Compare a [op] [b] pos) (truM (cmpM0 op ma mb)) := by
  refine PT.weak (pt_cmpR (opr_cmp hu) ha hb (nomarks hs)) fun σ H Q h => ?_
  have h1 := cmp_read (truM_bl h)
  show tOp _ _ _ σ H _
  obtain ⟨R, τ, hH, A, h1⟩ := h1
  refine ⟨R, τ, hH, A, rdAt_mono h1 fun x H1 ⟨R1, τ1, e1, A1, h2⟩ => ?_⟩
  refine ⟨R1, τ1, e1, A1, rdAt_mono h2 fun y H2 ⟨R2, d, e, k, e2, C2, r1, r2, hk, R3, τ3, d3, k3, e3, A3, r3, hk3, q⟩ => ?_⟩
  refine ⟨R2, d, e, k, e2, C2, r1, r2, hk, k, rfl, ?_⟩
  rw [← tru_bl r3 hk3]
  exact q
end
end Gc

end

section
set_option Elab.async false
set_option linter.all false
set_option maxRecDepth 100000
set_option maxHeartbeats 1000000
/-! the interpreter is sound: chains, and, or, not, if; displays; truth -/
namespace Gc
open PySem PySem.Spec L2
section
variable {X : Cx} {cl : CL} {W : WX} {a b c : Expr} {pos : Pos} {ma mb mc : M D} {ka kb : M Bool} {rest es : List Expr}

/-! ### chains -/
abbrev chnM (op op' : CmpOp) (ma mb mc : M D) : M D := M.bind ma fun x => M.bind mb fun y => M.bind (opS (fun S _ => cmpD S op x y) ()) fun k =>
  if k then M.bind mc fun z => M.bind (opS (fun S _ => cmpD S op' y z) ()) fun k => M.pure (.bl k) else M.pure (.bl false)
abbrev rC (op : CmpOp) : R2 := fun x y H Q => ∃ R d e k, R.H = H ∧ Cells R ∧ Rep R x d ∧ Rep R y e ∧ cmpD R.S op d e = some k ∧ Q (.bl k) H
theorem chn_read {op op' : CmpOp} {σ : St} {H : Hp} {Q : VK} (h : rd relD X.K cl W (chnM op op' ma mb mc) σ H Q) : tChain (rC op) (rC op') (rd relD X.K cl W ma) (rd relD X.K cl W mb) (rd relD X.K cl W mc) σ H Q := by
  obtain ⟨R, τ, hH, A, h⟩ := h
  refine ⟨R, τ, hH, A, rdAt_mono (rdAt_bind (rel := relD) h) fun x H1 ⟨R1, τ1, d, e1, x1, A1, r1, h1⟩ => ?_⟩
  refine ⟨R1, τ1, e1, A1, rdAt_mono (rdAt_bind (rel := relD) h1) fun y H2 ⟨R2, τ2, e, e2, x2, A2, r2, h2⟩ => ?_⟩
  subst e2
  obtain ⟨k, hk, h3⟩ := rdAt_opS h2
  refine ⟨R2, d, e, k, rfl, A2.cells, Rep.ext x2 r1, r2, hk, k, rfl, ?_⟩
  cases k with
  | false => exact iteF (rdAt_pure h3 A2 rep_bl)
  | true =>
    refine iteT ⟨R2, τ2, rfl, A2, rdAt_mono (rdAt_bind (rel := relD) h3) fun z H4 ⟨R4, τ4, g, e4, x4, A4, r4, h4⟩ => ?_⟩
    subst e4
    obtain ⟨k, hk, h5⟩ := rdAt_opS h4
    exact ⟨R4, e, g, k, rfl, A4.cells, Rep.ext x4 r2, r4, hk, rdAt_pure h5 A4 rep_bl⟩
theorem lastMarks_no {op op' : CmpOp} (h2 : notSet c = true) : lastMarks [op, op'] [b, c] = false := by
  unfold lastMarks
  exact nomarks h2
theorem se_chn {op op' : CmpOp} (hu : X.A.units + 100 < cLine) (ha : SE X cl W a ma) (hb : SE X cl W b mb) (hc : SE X cl W c mc) (h2 : notSet c = true) :
    SE X cl W (.Compare a [op, op'] [b, c] pos) (chnM op op' ma mb mc) := PE.weak (pe_chain (opr_cmp hu) (opr_cmp hu) ha hb hc (lastMarks_no h2)) fun _ _ _ h => chn_read h
theorem st_chn {op op' : CmpOp} (hu : X.A.units + 100 < cLine) (ha : SE X cl W a ma) (hb : SE X cl W b mb) (hc : SE X cl W c mc) (h2 : notSet c = true) :
    ST X cl W (.Compare a [op, op'] [b, c] pos) (truM (chnM op op' ma mb mc)) := by
  refine PT.weak (pt_chain (opr_cmp hu) (opr_cmp hu) ha hb hc (lastMarks_no h2)) fun σ H Q h => ?_
  have h1 := chn_read (truM_bl h)
  show tChain _ _ _ _ _ σ H _
  have mono : ∀ {Q Q' : VK}, (∀ k H, Q (.bl k) H → Q' (.bl k) H) → tChain (rC op) (rC op') (rd relD X.K cl W ma) (rd relD X.K cl W mb) (rd relD X.K cl W mc) σ H Q → tChain (rC op) (rC op') (rd relD X.K cl W ma) (rd relD X.K cl W mb) (rd relD X.K cl W mc) σ H Q' := fun {Q Q'} w h => by
    obtain ⟨R, τ, hH, A, h⟩ := h
    refine ⟨R, τ, hH, A, rdAt_mono h fun x H1 ⟨R1, τ1, e1, A1, h2⟩ => ⟨R1, τ1, e1, A1, rdAt_mono h2 fun y H2 ⟨R2, d, e, k, e2, C2, r1, r2, hk, k', ek, q⟩ => ⟨R2, d, e, k, e2, C2, r1, r2, hk, k', ek, ?_⟩⟩⟩
    cases k' with
    | false => rw [if_neg Bool.false_ne_true] at q ⊢; exact w _ _ q
    | true =>
      rw [if_pos rfl] at q ⊢
      obtain ⟨R3, τ3, e3, A3, h3⟩ := q
      exact ⟨R3, τ3, e3, A3, rdAt_mono h3 fun z H4 ⟨R4, d, e, k, e2, C2, r1, r2, hk, q⟩ => ⟨R4, d, e, k, e2, C2, r1, r2, hk, w _ _ q⟩⟩
  exact mono (fun k H ⟨R3, τ3, d3, k3, e3, A3, r3, hk3, q⟩ => ⟨k, rfl, by rw [← tru_bl r3 hk3]; exact q⟩) h1

/-! ### and, or, not, if -/
theorem se_not (ha : SE X cl W a ma) : SE X cl W (.UnaryOp .Not a pos) (M.bind ma fun x => match x with | .bl b => M.pure (.bl (!b)) | _ => bad) := by
  refine PE.weak (pe_not ha) fun σ H Q h => ?_
  obtain ⟨R, τ, hH, A, h⟩ := h
  refine ⟨R, τ, hH, A, rdAt_mono (rdAt_bind (rel := relD) h) fun x H1 ⟨R1, τ1, d, e1, x1, A1, r1, h1⟩ => ?_⟩
  subst e1
  cases d with
  | bl i => exact ⟨i, de_bl r1, rdAt_pure h1 A1 rep_bl⟩
  | _ => exact h1.elim
theorem se_one {op : BoolOp} (ha : SE X cl W a ma) : SE X cl W (.BoolOp op [a] pos) ma := pe_one ha
theorem se_and (ha : SE X cl W a ma) (hb : SE X cl W (.BoolOp .And (b :: rest) pos) mb) :
    SE X cl W (.BoolOp .And (a :: b :: rest) pos) (M.bind ma fun x => match x with | .bl true => mb | .bl false => M.pure (.bl false) | _ => bad) := by
  refine PE.weak (pe_and ha hb) fun σ H Q h => ?_
  obtain ⟨R, τ, hH, A, h⟩ := h
  refine ⟨R, τ, hH, A, rdAt_mono (rdAt_bind (rel := relD) h) fun x H1 ⟨R1, τ1, d, e1, x1, A1, r1, h1⟩ => ?_⟩
  subst e1
  cases d with
  | bl i =>
    refine ⟨i, de_bl r1, ?_⟩
    cases i with
    | true => exact iteT ⟨R1, τ1, rfl, A1, h1⟩
    | false => exact iteF (rdAt_pure h1 A1 rep_bl)
  | _ => exact h1.elim
theorem se_or (ha : SE X cl W a ma) (hb : SE X cl W (.BoolOp .Or (b :: rest) pos) mb) :
    SE X cl W (.BoolOp .Or (a :: b :: rest) pos) (M.bind ma fun x => match x with | .bl false => mb | .bl true => M.pure (.bl true) | _ => bad) := by
  refine PE.weak (pe_or ha hb) fun σ H Q h => ?_
  obtain ⟨R, τ, hH, A, h⟩ := h
  refine ⟨R, τ, hH, A, rdAt_mono (rdAt_bind (rel := relD) h) fun x H1 ⟨R1, τ1, d, e1, x1, A1, r1, h1⟩ => ?_⟩
  subst e1
  cases d with
  | bl i =>
    refine ⟨i, de_bl r1, ?_⟩
    cases i with
    | true => exact iteT (rdAt_pure h1 A1 rep_bl)
    | false => exact iteF ⟨R1, τ1, rfl, A1, h1⟩
  | _ => exact h1.elim
theorem st_not (ha : ST X cl W a ka) : ST X cl W (.UnaryOp .Not a pos) (M.bind ka fun k => M.pure (!k)) := by
  refine PT.weak (pt_not ha) fun σ H Q h => ?_
  obtain ⟨R, τ, hH, A, h⟩ := h
  refine ⟨R, τ, hH, A, rdAt_mono (rdAt_bind (rel := relB) h) fun x H1 ⟨R1, τ1, d, e1, x1, A1, r1, h1⟩ => ?_⟩
  subst e1
  subst r1
  exact rdAt_pure h1 A1 rfl
abbrev SW (X : Cx) (cl : CL) (W : WX) (e : Expr) (m : M Bool) : Prop := PW X e (rd relB X.K cl W m)
theorem sw_one {op : BoolOp} (ha : ST X cl W a ka) : SW X cl W (.BoolOp op [a] pos) ka := by
  cases op with
  | And => exact pw_and1 ha
  | Or => exact pw_or1 ha
theorem sw_and (ha : ST X cl W a ka) (hb : SW X cl W (.BoolOp .And (b :: rest) pos) kb) : SW X cl W (.BoolOp .And (a :: b :: rest) pos) (M.bind ka fun k => if k then kb else M.pure false) := by
  refine PW.weak (pw_and ha hb) fun σ H Q h => ?_
  obtain ⟨R, τ, hH, A, h⟩ := h
  refine ⟨R, τ, hH, A, rdAt_mono (rdAt_bind (rel := relB) h) fun x H1 ⟨R1, τ1, d, e1, x1, A1, r1, h1⟩ => ?_⟩
  subst e1
  subst r1
  cases x with
  | true => exact iteT ⟨R1, τ1, rfl, A1, h1⟩
  | false => exact iteF (rdAt_pure h1 A1 rfl)
theorem sw_or (ha : ST X cl W a ka) (hb : SW X cl W (.BoolOp .Or (b :: rest) pos) kb) : SW X cl W (.BoolOp .Or (a :: b :: rest) pos) (M.bind ka fun k => if k then M.pure true else kb) := by
  refine PW.weak (pw_or ha hb) fun σ H Q h => ?_
  obtain ⟨R, τ, hH, A, h⟩ := h
  refine ⟨R, τ, hH, A, rdAt_mono (rdAt_bind (rel := relB) h) fun x H1 ⟨R1, τ1, d, e1, x1, A1, r1, h1⟩ => ?_⟩
  subst e1
  subst r1
  cases x with
  | true => exact iteT (rdAt_pure h1 A1 rfl)
  | false => exact iteF ⟨R1, τ1, rfl, A1, h1⟩
theorem se_ife (hc : ST X cl W c ka) (ha : SE X cl W a ma) (hb : SE X cl W b mb) : SE X cl W (.IfExp c a b pos) (M.bind ka fun k => if k then ma else mb) := by
  refine PE.weak (pe_ifExp hc ha hb) fun σ H Q h => ?_
  obtain ⟨R, τ, hH, A, h⟩ := h
  refine ⟨R, τ, hH, A, rdAt_mono (rdAt_bind (rel := relB) h) fun x H1 ⟨R1, τ1, d, e1, x1, A1, r1, h1⟩ => ?_⟩
  subst e1
  subst r1
  cases x with
  | true => exact iteT ⟨R1, τ1, rfl, A1, h1⟩
  | false => exact iteF ⟨R1, τ1, rfl, A1, h1⟩

/-! ### truth -/
theorem tru_V {K : PySem.W.Frag} {R : RC} (C : Cells R) {x : V} {d : D} {k : Bool} (r : Rep R x d) (h : truD R.S d = some k) : TruV K x R.H k := by
  unfold truD at h
  split at h
  · rename_i q
    rcases rep_de C r q with ⟨n, _, o, e, _, ho, ro⟩ | ⟨r, _⟩
    · exact ro.elim
    · unfold Rep at r; subst r; cases h; rfl
  · rename_i b q
    rcases rep_de C r q with ⟨n, _, o, e, _, ho, ro⟩ | ⟨r, _⟩
    · exact ro.elim
    · unfold Rep at r; subst r; cases h; rfl
  · rename_i b q
    rcases rep_de C r q with ⟨n, _, o, e, _, ho, ro⟩ | ⟨r, _⟩
    · exact ro.elim
    · unfold Rep at r; subst r; cases h; rfl
  · rename_i b q
    have e := de_str C r q
    subst e
    split at h
    · rename_i hl
      cases h
      refine ⟨hl, ?_⟩
      by_cases hz : b.length = 0
      · simp [hz]
      · have h2 : ((b.length : Int) != 0) = true := by simp; omega
        have h3 : (b.length != 0) = true := by simp; omega
        rw [h2, h3]
    · cases h
  · rename_i xs q
    obtain ⟨a, vs, e, hh, rr⟩ := de_lst C r q
    subst e
    cases h
    refine .inl ⟨vs, SqL.of hh, ?_⟩
    cases xs with
    | nil => unfold RepL at rr; subst rr; rfl
    | cons y ys => unfold RepL at rr; obtain ⟨v, w, e, _⟩ := rr; subst e; rfl
  · rename_i xs q
    obtain ⟨a, vs, e, hh, rr⟩ := de_tup C r q
    subst e
    cases h
    refine .inr (.inl ⟨vs, SqT.of hh, ?_⟩)
    cases xs with
    | nil => unfold RepL at rr; subst rr; rfl
    | cons y ys => unfold RepL at rr; obtain ⟨v, w, e, _⟩ := rr; subst e; rfl
  · cases h
/-- whose test is its value's truth -/
def plainT : Expr → Bool
  | .UnaryOp .. | .BoolOp .. | .IfExp .. | .Compare .. => false
  | _ => true
theorem plainT_eq (h : plainT a = true) : ∀ whole, isTrue a X.env whole = (do let v ← whole; standAt a.pos; holding [v] (truthy v)) := by
  intro whole
  cases a <;> first | rfl | cases h
theorem st_val (h : plainT a = true) (ha : SE X cl W a ma) : ST X cl W a (truM ma) := by
  refine PT.weak (pt_truth ha (plainT_eq h)) fun σ H Q h => ?_
  obtain ⟨R, τ, hH, A, h⟩ := truM_bl h
  exact ⟨R, τ, hH, A, rdAt_mono h fun x H1 ⟨R1, τ1, d, k, e1, A1, r1, hk, q⟩ => ⟨k, by subst e1; exact tru_V A1.cells r1 hk, q⟩⟩

/-! ### argument lists and displays -/
theorem sa_nil : SA X cl W [] (M.pure []) := PA.weak pa_nil fun σ H Q ⟨R, τ, hH, A, h⟩ => by subst hH; exact rdAt_pure h A RepL.nil
def notStar : Expr → Bool
  | .Starred .. => false
  | _ => true
theorem star_plain (h : notStar a = true) (env : Env) : starEach (a :: es) env = (false, eval a env) :: starEach es env := by
  cases a <;> first | rfl | cases h
variable {ml : M (List D)}
theorem sa_cons (hs : notStar a = true) (ha : SE X cl W a ma) (hr : SA X cl W es ml) : SA X cl W (a :: es) (M.bind ma fun d => M.bind ml fun ds => M.pure (d :: ds)) := by
  refine PA.weak (pa_cons ha hr (star_plain hs _)) fun σ H Q h => ?_
  obtain ⟨R, τ, hH, A, h⟩ := h
  refine ⟨R, τ, hH, A, rdAt_mono (rdAt_bind (rel := relD) h) fun x H1 ⟨R1, τ1, d, e1, x1, A1, r1, h1⟩ => ?_⟩
  refine ⟨R1, τ1, e1, A1, rdAt_mono (rdAt_bind (rel := relL) h1) fun y H2 ⟨R2, τ2, e, e2, x2, A2, r2, h2⟩ => ?_⟩
  subst e2
  exact rdAt_pure h2 A2 (RepL.cons (Rep.ext x2 r1) r2)
theorem seq_case {R : RC} (C : Cells R) {v : V} {d : D} {xs : List D} (r : Rep R v d) (h : seqD R.S d = some xs) : ∃ a vs, v = .ref a ∧ (R.H a = some (.lst vs) ∨ R.H a = some (.tup vs)) ∧ RepL R vs xs := by
  unfold seqD at h
  split at h
  · rename_i q
    cases h
    obtain ⟨a, vs, e, hh, rr⟩ := de_lst C r q
    exact ⟨a, vs, e, .inl hh, rr⟩
  · rename_i q
    cases h
    obtain ⟨a, vs, e, hh, rr⟩ := de_tup C r q
    exact ⟨a, vs, e, .inr hh, rr⟩
  · cases h
theorem sa_star {p : Pos} (ha : SE X cl W a ma) (hr : SA X cl W es ml) : SA X cl W (.Starred a p :: es) (M.bind ma fun d => M.bind (opS (fun S _ => seqD S d) ()) fun xs => M.bind ml fun ds => M.pure (xs ++ ds)) := by
  refine PA.weak (StX.pa_star ha hr rfl) fun σ H Q h => ?_
  obtain ⟨R, τ, hH, A, h⟩ := h
  refine ⟨R, τ, hH, A, rdAt_mono (rdAt_bind (rel := relD) h) fun x H1 ⟨R1, τ1, d, e1, x1, A1, r1, h1⟩ => ?_⟩
  subst e1
  obtain ⟨xs, hk, h2⟩ := rdAt_opS h1
  obtain ⟨a, vs, ev, hh, rr⟩ := seq_case A1.cells r1 hk
  refine ⟨a, vs, ev, hh.elim (fun z => .inr (SqL.of z)) (fun z => .inl (SqT.of z)), R1, τ1, rfl, A1, rdAt_mono (rdAt_bind (rel := relL) h2) fun y H2 ⟨R2, τ2, e, e2, x2, A2, r2, h3⟩ => ?_⟩
  subst e2
  exact rdAt_pure h3 A2 ((RepL.ext x2 rr).append r2)
theorem se_tup {k : Nat} (ha : SA X cl W es ml) : SE X cl W (.Tuple es k pos) (M.bind ml fun xs => if xs.length ≤ sizeLine then M.pure (.tup xs) else bad) := by
  refine PE.weak (pe_tup ha) fun σ H Q h => ?_
  obtain ⟨R, τ, hH, A, h⟩ := h
  refine ⟨R, τ, hH, A, rdAt_mono (rdAt_bind (rel := relL) h) fun x H1 ⟨R1, τ1, d, e1, x1, A1, r1, h1⟩ => ?_⟩
  subst e1
  dsimp only at h1
  by_cases hl : d.length ≤ sizeLine
  · rw [if_pos hl] at h1
    refine ⟨by rw [r1.length]; exact hl, fun p hp => ?_⟩
    have A2 := A1.new (o := .tup x) hp
    exact h1 (.ref p) (R1.upd p (.tup x)) (Ext.new hp) rfl A2 (by
      show Rep (R1.upd p (.tup x)) (.ref p) (.tup d)
      unfold Rep
      exact ⟨p, x, rfl, upd_same, A1.cells.nl hp, RepL.ext (Ext.new hp) r1⟩)
  · rw [if_neg hl] at h1
    exact h1.elim
theorem se_lst {md : Nat} (ha : SA X cl W es ml) : SE X cl W (.List es pos) (M.bind ml fun xs => if xs.length ≤ sizeLine then new md (.lst xs) else bad) := by
  refine PE.weak (pe_lst ha) fun σ H Q h => ?_
  obtain ⟨R, τ, hH, A, h⟩ := h
  refine ⟨R, τ, hH, A, rdAt_mono (rdAt_bind (rel := relL) h) fun x H1 ⟨R1, τ1, d, e1, x1, A1, r1, h1⟩ => ?_⟩
  subst e1
  dsimp only at h1
  by_cases hl : d.length ≤ sizeLine
  · rw [if_pos hl] at h1
    exact ⟨by rw [r1.length]; exact hl, rdAt_new h1 A1 ⟨x, rfl, r1⟩⟩
  · rw [if_neg hl] at h1
    exact h1.elim
end
end Gc

end

section
set_option Elab.async false
set_option linter.all false
set_option maxRecDepth 100000
set_option maxHeartbeats 1000000
/-! the interpreter is sound: subscripts, slices, built-ins, fields, isinstance -/
namespace Gc
open PySem PySem.Spec L2
theorem PE.or {X : Cx} {e : Expr} {t t' : TE} (h : PE X e t) (h' : PE X e t') : PE X e (fun σ H Q => t σ H Q ∨ t' σ H Q) := ⟨fun pins s σ H Q I hh => hh.elim (h.run pins s σ H Q I) (h'.run pins s σ H Q I)⟩
theorem PE.ex {X : Cx} {e : Expr} {ι : Type} {t : ι → TE} (h : ∀ i, PE X e (t i)) : PE X e (fun σ H Q => ∃ i, t i σ H Q) := ⟨fun pins s σ H Q I ⟨i, hh⟩ => (h i).run pins s σ H Q I hh⟩
theorem IxR.imp {X : Cx} {r r' : R2} (h : IxR X r) (w : ∀ x y H Q, r' x y H Q → r x y H Q) : IxR X r' := fun value slice pins s σ H x y v u Q I rx ry hh hs => h value slice pins s σ H x y v u Q I rx ry (w x y H Q hh) hs
theorem SlR.imp {X : Cx} {r r' : V → Option Int → Option Int → Hp → VK → Prop} (h : SlR X r) (w : ∀ x l u H Q, r' x l u H Q → r x l u H Q) : SlR X r' := fun pins s σ H x v vl vu lo hi sl Q I rx hs pl pu hh => h pins s σ H x v vl vu lo hi sl Q I rx hs pl pu (w x lo hi H Q hh)

/-! ### lists by places -/
theorem atI_rep {R : RC} {vs : List V} {xs : List D} {k : Int} {d : D} (r : RepL R vs xs) (h : atI xs k = some d) : ∃ v, atI vs k = some v ∧ Rep R v d := by
  unfold atI at h ⊢
  rw [r.length]
  cases q : ixN xs.length k with
  | none => rw [q] at h; cases h
  | some j =>
    rw [q] at h
    obtain ⟨v, h1, h2⟩ := r.get (show xs[j]? = some d from h)
    exact ⟨v, h1, h2⟩
theorem lookK_get {κ : Type} [DecidableEq κ] {R : RC} {k : κ} : ∀ {kvs : List (κ × V)} {ks : List κ} {xs : List D} {d : D}, kvs.map (·.1) = ks → RepL R (kvs.map (·.2)) xs → lookK k ks xs = some d →
    ∃ v, (kvs.find? fun p => decide (p.1 = k)).map (·.2) = some v ∧ Rep R v d
  | [], ks, xs, d, e, r, h => by
    cases e
    cases xs <;> cases h
  | (k', v) :: kvs, ks, xs, d, e, r, h => by
    cases e
    cases xs with
    | nil => cases h
    | cons x xs =>
      simp only [List.map_cons] at r h
      unfold RepL at r
      obtain ⟨v', w, ev, r1, r2⟩ := r
      cases ev
      unfold lookK at h
      by_cases hk : k = k'
      · rw [if_pos hk] at h
        cases h
        exact ⟨v, by simp [hk], r1⟩
      · rw [if_neg hk] at h
        obtain ⟨v2, h1, h2⟩ := lookK_get rfl r2 h
        exact ⟨v2, by rw [List.find?_cons_of_neg (by simpa using fun z => hk z.symm)]; exact h1, h2⟩
section
variable {X : Cx} {cl : CL} {W : WX} {a b c : Expr} {pos p2 : Pos} {ma mb mc : M D} {rest es : List Expr} {ml : M (List D)}

/-! ### subscripts -/
def notSl : Expr → Bool
  | .Slice .. => false
  | _ => true
theorem plainIx (h : notSl b = true) : PlainIx b := by
  intro o i
  cases b <;> first | rfl | cases h
abbrev subM (ma mb : M D) : M D := M.bind ma fun d => M.bind mb fun e => opS (fun S _ => subD S d e) ()
theorem scr_at {ns : List Int} {k : Int} {d : D} (h : (atI ns k).map D.int = some d) : ∃ i, d = .int i ∧ atI (ns.map V.int) k = some (.int i) := by
  unfold atI at h ⊢
  rw [List.length_map]
  cases q : ixN ns.length k with
  | none => rw [q] at h; cases h
  | some j =>
    rw [q] at h
    cases q2 : ns[j]? with
    | none => simp only [Option.bind_some, q2] at h; cases h
    | some i =>
      simp only [Option.bind_some, q2, Option.map_some, Option.some.injEq] at h
      exact ⟨i, h.symm, by simp [q2]⟩
/-- the key of a value -/
theorem key_rep {R : RC} {v : V} {d : D} {k : Key} (r : Rep R v d) (h : keyD d = some k) : v = kV k := by
  cases d with
  | int i => cases h; exact de_int r
  | str i => cases h; exact de_strv r
  | _ => cases h
theorem keys_rep {R : RC} : ∀ {xs : List D} {vs : List V} {ks : List Key}, RepL R vs xs → xs.mapM keyD = some ks → vs = ks.map kV
  | [], vs, ks, r, h => by
    unfold RepL at r
    subst r
    simp at h
    subst h
    rfl
  | d :: ds, vs, ks, r, h => by
    unfold RepL at r
    obtain ⟨v, w, e, r1, r2⟩ := r
    subst e
    rw [List.mapM_cons] at h
    cases q1 : keyD d with
    | none => rw [q1] at h; cases h
    | some k =>
      cases q2 : ds.mapM keyD with
      | none => rw [q1, q2] at h; cases h
      | some ks' =>
        rw [q1, q2] at h
        cases h
        rw [key_rep r1 q1, keys_rep r2 q2]
        rfl
theorem valV_find {κ : Type} [DecidableEq κ] (kvs : List (κ × V)) (k : κ) : valV kvs k = (kvs.find? fun p => decide (p.1 = k)).map (·.2) := by
  first | rfl | (unfold valV; rfl) | (unfold valV; congr)
/-- a dict's item, by values -/
theorem ix_dict (hu : X.A.units + 1 < cLine) : IxR X (fun x y H Q => ∃ a v, x = .ref a ∧ DGet H a y (some v) ∧ Q v H) := by
  intro value slice pins s σ H x y v u Q I rx ry ⟨a, w, ex, g, q⟩ hs
  subst ex
  cases rx
  exact PyProof.Rows.tail_any (dict_typeIs I g) PySem.F.slot_dict_getitem.lookup (d_getItem hu I g ry fun w' s3 I3 rw' => ⟨w, H, I3, rw', q⟩) hs
theorem sub_case {R : RC} (hK : R.K = X.K) (C : Cells R) {x y : V} {d e z : D} (r1 : Rep R x d) (r2 : Rep R y e) (h : subD R.S d e = some z) {Q : VK} (q : ∀ v, Rep R v z → Q v R.H) :
    rIxL X.K x y R.H Q ∨ rIxT X.K x y R.H Q ∨ rIxS x y R.H Q ∨ ∃ a v, x = .ref a ∧ DGet R.H a y (some v) ∧ Q v R.H := by
  have int_of : ∀ {α : Type} {f : Int → Option α} {a : α}, (intD e).bind f = some a → ∃ k, e = .int k ∧ f k = some a := fun {α f a} h => by
    cases e with
    | int k => exact ⟨k, rfl, h⟩
    | _ => cases h
  unfold subD at h
  split at h
  · rename_i xs hd
    obtain ⟨k, ek, h3⟩ := int_of h
    subst ek
    obtain ⟨p, vs, ev, hp, rp⟩ := de_lst C r1 hd
    obtain ⟨v, h1, h2⟩ := atI_rep rp h3
    exact .inl ⟨p, vs, k, v, ev, de_int r2, SqL.of hp, h1, q v h2⟩
  · rename_i xs hd
    obtain ⟨k, ek, h3⟩ := int_of h
    subst ek
    obtain ⟨p, vs, ev, hp, rp⟩ := de_tup C r1 hd
    obtain ⟨v, h1, h2⟩ := atI_rep rp h3
    exact .inr (.inl ⟨p, vs, k, v, ev, de_int r2, SqT.of hp, h1, q v h2⟩)
  · rename_i ns hd
    obtain ⟨k, ek, h3⟩ := int_of h
    subst ek
    obtain ⟨p, ev, hp⟩ := de_scr C r1 hd
    rw [hK] at hp
    obtain ⟨i, ez, h1⟩ := scr_at h3
    subst ez
    exact .inl ⟨p, _, k, _, ev, de_int r2, hp, h1, q _ rep_int⟩
  · rename_i z' hd
    obtain ⟨k, ek, h3⟩ := int_of h
    subst ek
    split at h3
    · rename_i hl
      cases q1 : atI z'.cps.toList k with
      | none => rw [q1] at h3; cases h3
      | some c =>
        rw [q1] at h3
        cases h3
        exact .inr (.inr (.inl ⟨z', k, c, de_str C r1 hd, de_int r2, hl, q1, q _ rep_str⟩))
    · cases h3
  · rename_i ks xs hd
    cases q1 : keyD e with
    | none => rw [q1] at h; cases h
    | some k =>
      rw [q1] at h
      have hv := key_rep r2 q1
      rcases rep_de C r1 hd with ⟨n, _, o, ev, _, ho, ro⟩ | ⟨r, _⟩
      · obtain ⟨kvs, eo, ek, rr⟩ := ro
        subst eo
        obtain ⟨v, h1, h2⟩ := lookK_get ek rr h
        exact .inr (.inr (.inr ⟨_, v, ev, .inl ⟨kvs, k, .inl ho, hv, by rw [valV_find]; exact h1.symm⟩, q v h2⟩))
      · unfold Rep at r
        obtain ⟨a, kvs, ev, ho, _, ek, rr⟩ := r
        obtain ⟨v, h1, h2⟩ := lookK_get ek rr h
        exact .inr (.inr (.inr ⟨_, v, ev, .inl ⟨kvs, k, .inl ho, hv, by rw [valV_find]; exact h1.symm⟩, q v h2⟩))
  · rename_i ks xs hd
    cases q1 : keysD e with
    | none => rw [q1] at h; cases h
    | some k =>
      rw [q1] at h
      have hv : ∃ b, y = .ref b ∧ R.H b = some (.tup (k.map kV)) := by
        cases e with
        | tup es =>
          unfold Rep at r2
          obtain ⟨b, vs, ey, hb, _, rr⟩ := r2
          have e2 := keys_rep rr (show es.mapM keyD = some k from q1)
          exact ⟨b, ey, by rw [← e2]; exact hb⟩
        | _ => cases q1
      obtain ⟨b, ey, hb⟩ := hv
      rcases rep_de C r1 hd with ⟨n, _, o, ev, _, ho, ro⟩ | ⟨r, _⟩
      · obtain ⟨kvs, eo, ek, rr⟩ := ro
        subst eo
        obtain ⟨v, h1, h2⟩ := lookK_get ek rr h
        exact .inr (.inr (.inr ⟨_, v, ev, .inr ⟨kvs, k, b, .inl ho, ey, hb, by rw [valV_find]; exact h1.symm⟩, q v h2⟩))
      · unfold Rep at r
        obtain ⟨a, kvs, ev, ho, _, ek, rr⟩ := r
        obtain ⟨v, h1, h2⟩ := lookK_get ek rr h
        exact .inr (.inr (.inr ⟨_, v, ev, .inr ⟨kvs, k, b, .inl ho, ey, hb, by rw [valV_find]; exact h1.symm⟩, q v h2⟩))
  · cases h
theorem se_sub (hu : X.A.units + 1 < cLine) (ha : SE X cl W a ma) (hb : SE X cl W b mb) (hs : notSl b = true) : SE X cl W (.Subscript a b pos) (subM ma mb) := by
  refine PE.weak (pe_ix (ix_list.or (ix_tup.or (ix_str.or (ix_dict hu)))) ha hb (plainIx hs)) fun σ H Q h => ?_
  obtain ⟨R, τ, hH, A, h⟩ := h
  refine ⟨R, τ, hH, A, rdAt_mono (rdAt_bind (rel := relD) h) fun x H1 ⟨R1, τ1, d, e1, x1, A1, r1, h1⟩ => ?_⟩
  refine ⟨R1, τ1, e1, A1, rdAt_mono (rdAt_bind (rel := relD) h1) fun y H2 ⟨R2, τ2, e, e2, x2, A2, r2, h2⟩ => ?_⟩
  subst e2
  obtain ⟨z, hz, h3⟩ := rdAt_opS' h2
  exact sub_case A2.K A2.cells (Rep.ext x2 r1) r2 hz fun v rv => rdAt_pure h3 A2 rv

/-! ### slices -/
theorem cut_rep {R : RC} {vs : List V} {xs : List D} (r : RepL R vs xs) (lo hi : Option Int) : RepL R (cutV vs lo hi) (cutD xs lo hi) := by
  unfold cutV cutD
  rw [r.length]
  exact (r.drop _).take _
abbrev slM (md : Nat) (ma : M D) (mp : M (Option Int × Option Int)) : M D := M.bind ma fun d => M.bind mp fun p => M.bind (opS (fun S _ => slD S d p.1 p.2) ()) (fin md)
theorem sl_case {md : Nat} {R : RC} {τ : List (Option D)} {σ : St} {x : V} {d : D} {lo hi : Option Int} {Q : VK} (A : At X.K cl R σ τ) (r1 : Rep R x d) (h : rdAt relD X.K cl W R τ (M.bind (opS (fun S _ => slD S d lo hi) ()) (fin md)) σ Q) :
    rSlL X.K x lo hi R.H Q ∨ rSlT X.K x lo hi R.H Q ∨ rSlS x lo hi R.H Q := by
  obtain ⟨z, hz, h⟩ := rdAt_opS h
  unfold slD at hz
  split at hz
  · rename_i xs hd
    cases hz
    obtain ⟨p, vs, ev, hp, rp⟩ := de_lst A.cells r1 hd
    exact .inl ⟨p, vs, ev, SqL.of hp, rdAt_new h A ⟨_, rfl, cut_rep rp lo hi⟩⟩
  · rename_i xs hd
    obtain ⟨p, vs, ev, hp, rp⟩ := de_tup A.cells r1 hd
    split at hz
    · cases hz
    · rename_i hn
      cases hz
      refine .inr (.inl ⟨p, vs, ev, SqT.of hp, by rw [rp.length]; exact hn, fun p hp => ?_⟩)
      exact h (.ref p) (R.upd p (.tup (cutV vs lo hi))) (Ext.new hp) rfl (A.new hp) (by
        show Rep (R.upd p (.tup (cutV vs lo hi))) (.ref p) (.tup (cutD xs lo hi))
        unfold Rep
        exact ⟨p, _, rfl, upd_same, A.cells.nl hp, RepL.ext (Ext.new hp) (cut_rep rp lo hi)⟩)
  · rename_i zz hd
    split at hz
    · rename_i hl
      cases hz
      exact .inr (.inr ⟨zz, de_str A.cells r1 hd, hl, rdAt_pure h A rep_str⟩)
    · cases hz
  · cases hz
theorem slr_all : SlR X (fun x lo hi H Q => rSlL X.K x lo hi H Q ∨ rSlT X.K x lo hi H Q ∨ rSlS x lo hi H Q) := sl_list.or (sl_tup.or sl_str)
/-- the bounds as they come -/
abbrev sl4M (md : Nat) (lo hi : Bool) (ma : M D) (ml : M (List D)) : M D := M.bind ma fun d => M.bind ml fun is => M.bind (liftO (optI is lo hi)) fun p => M.bind (opS (fun S _ => slD S d p.1 p.2) ()) (fin md)
theorem se_sl00 {md : Nat} (ha : SE X cl W a ma) : SE X cl W (.Subscript a (.Slice none none none p2) pos) (sl4M md false false ma (M.pure [])) := by
  refine PE.weak (pe_slice slr_all ha po_none po_none) fun σ H Q h => ?_
  obtain ⟨R, τ, hH, A, h⟩ := h
  refine ⟨R, τ, hH, A, rdAt_mono (rdAt_bind (rel := relD) h) fun x H1 ⟨R1, τ1, d, e1, x1, A1, r1, h1⟩ => ?_⟩
  subst e1
  exact sl_case A1 r1 h1
theorem se_sl10 {md : Nat} (ha : SE X cl W a ma) (hb : SE X cl W b mb) : SE X cl W (.Subscript a (.Slice (some b) none none p2) pos) (sl4M md true false ma (M.bind mb fun x => M.bind (M.pure []) fun xs => M.pure (x :: xs))) := by
  refine PE.weak (pe_slice slr_all ha (po_some hb) po_none) fun σ H Q h => ?_
  obtain ⟨R, τ, hH, A, h⟩ := h
  refine ⟨R, τ, hH, A, rdAt_mono (rdAt_bind (rel := relD) h) fun x H1 ⟨R1, τ1, d, e1, x1, A1, r1, h1⟩ => ?_⟩
  dsimp only at h1
  refine ⟨R1, τ1, e1, A1, rdAt_mono (rdAt_bind (rel := relD) (show rdAt relD X.K cl W R1 τ1 (M.bind mb fun x => M.bind (liftO (optI [x] true false)) fun p => M.bind (opS (fun S _ => slD S d p.1 p.2) ()) (fin md)) σ Q from ?_)) fun y H2 ⟨R2, τ2, e, e2, x2, A2, r2, h2⟩ => ?_⟩
  · rw [M.bind_assoc] at h1
    exact h1
  · subst e2
    obtain ⟨p, hp, h3⟩ := rdAt_liftO h2
    cases e with
    | int i => cases hp; exact ⟨i, de_int r2, sl_case A2 (Rep.ext x2 r1) h3⟩
    | _ => cases hp
theorem se_sl01 {md : Nat} (ha : SE X cl W a ma) (hb : SE X cl W b mb) : SE X cl W (.Subscript a (.Slice none (some b) none p2) pos) (sl4M md false true ma (M.bind mb fun x => M.bind (M.pure []) fun xs => M.pure (x :: xs))) := by
  refine PE.weak (pe_slice slr_all ha po_none (po_some hb)) fun σ H Q h => ?_
  obtain ⟨R, τ, hH, A, h⟩ := h
  refine ⟨R, τ, hH, A, rdAt_mono (rdAt_bind (rel := relD) h) fun x H1 ⟨R1, τ1, d, e1, x1, A1, r1, h1⟩ => ?_⟩
  dsimp only at h1
  refine ⟨R1, τ1, e1, A1, rdAt_mono (rdAt_bind (rel := relD) (show rdAt relD X.K cl W R1 τ1 (M.bind mb fun x => M.bind (liftO (optI [x] false true)) fun p => M.bind (opS (fun S _ => slD S d p.1 p.2) ()) (fin md)) σ Q from ?_)) fun y H2 ⟨R2, τ2, e, e2, x2, A2, r2, h2⟩ => ?_⟩
  · rw [M.bind_assoc] at h1
    exact h1
  · subst e2
    obtain ⟨p, hp, h3⟩ := rdAt_liftO h2
    cases e with
    | int i => cases hp; exact ⟨i, de_int r2, sl_case A2 (Rep.ext x2 r1) h3⟩
    | _ => cases hp
end
end Gc

end

section
set_option Elab.async false
set_option linter.all false
set_option maxRecDepth 100000
set_option maxHeartbeats 1000000
/-! the interpreter is sound: built-ins, fields, isinstance -/
namespace Gc
open PySem PySem.Spec L2
section
variable {X : Cx} {cl : CL} {W : WX} {a b c e : Expr} {pos p2 p : Pos} {ma mb mc : M D} {rest es : List Expr} {ml : M (List D)} {x : Str}

def rB (K : PySem.W.Frag) (cl : CL) (W : WX) (b : Bl) (md : Nat) : List V → Hp → VK → Prop := fun vs H Q => ∃ σ R τ ds, R.H = H ∧ At K cl R σ τ ∧ RepL R vs ds ∧ rdAt relD K cl W R τ (M.bind (opS (fun S _ => bltD S b ds) ()) (fin md)) σ Q
theorem repL1 {R : RC} {vs : List V} {d : D} (r : RepL R vs [d]) : ∃ v, vs = [v] ∧ Rep R v d := by
  unfold RepL at r
  obtain ⟨v, w, e, r1, r2⟩ := r
  unfold RepL at r2
  subst r2
  exact ⟨v, e, r1⟩
theorem repL2 {R : RC} {vs : List V} {d e : D} (r : RepL R vs [d, e]) : ∃ v w, vs = [v, w] ∧ Rep R v d ∧ Rep R w e := by
  unfold RepL at r
  obtain ⟨v, w, ev, r1, r2⟩ := r
  obtain ⟨w', ew, r3⟩ := repL1 r2
  subst ew
  exact ⟨v, w', ev, r1, r3⟩
theorem len_V {R : RC} (hK : R.K = X.K) (C : Cells R) {v : V} {d : D} {n : Nat} (r : Rep R v d) (h : lenD R.S d = some n) : LenV X.K v R.H n := by
  unfold lenD at h
  split at h
  · rename_i xs hd
    obtain ⟨p, vs, ev, hp, rp⟩ := de_lst C r hd
    subst ev
    cases h
    exact .inl ⟨vs, SqL.of hp, rp.length.symm⟩
  · rename_i xs hd
    obtain ⟨p, vs, ev, hp, rp⟩ := de_tup C r hd
    subst ev
    cases h
    exact .inr ⟨vs, SqT.of hp, rp.length.symm⟩
  · rename_i ns hd
    obtain ⟨p, ev, hp⟩ := de_scr C r hd
    rw [hK] at hp
    subst ev
    cases h
    exact .inl ⟨_, hp, (List.length_map ..).symm⟩
  · rename_i z hd
    have ev := de_str C r hd
    subst ev
    split at h
    · cases h
      exact ⟨by assumption, rfl⟩
    · cases h
  · cases h
theorem rep_ints {R : RC} : ∀ {xs : List D} {vs : List V} {ns : List Int}, RepL R vs xs → asInts xs = some ns → vs = ns.map V.int
  | [], vs, ns, r, h => by unfold RepL at r; subst r; cases h; rfl
  | d :: ds, vs, ns, r, h => by
    unfold RepL at r
    obtain ⟨v, w, ev, r1, r2⟩ := r
    subst ev
    cases d with
    | int i =>
      have h' : (asInts ds).map (i :: ·) = some ns := h
      cases q : asInts ds with
      | none => rw [q] at h'; cases h'
      | some ms =>
        rw [q] at h'
        cases h'
        rw [de_int r1, rep_ints r2 q]
        rfl
    | _ => cases h
theorem rep_bools {R : RC} : ∀ {xs : List D} {vs : List V} {ns : List Bool}, RepL R vs xs → asBools xs = some ns → vs = ns.map V.bl
  | [], vs, ns, r, h => by unfold RepL at r; subst r; cases h; rfl
  | d :: ds, vs, ns, r, h => by
    unfold RepL at r
    obtain ⟨v, w, ev, r1, r2⟩ := r
    subst ev
    cases d with
    | bl i =>
      have h' : (asBools ds).map (i :: ·) = some ns := h
      cases q : asBools ds with
      | none => rw [q] at h'; cases h'
      | some ms =>
        rw [q] at h'
        cases h'
        rw [de_bl r1, rep_bools r2 q]
        rfl
    | _ => cases h
theorem rep_intsR {R : RC} : ∀ (ns : List Int), RepL R (ns.map V.int) (ns.map D.int)
  | [] => RepL.nil
  | n :: ns => RepL.cons rep_int (rep_intsR ns)
theorem b1_inv {R : RC} {vs : List V} {ds : List D} {f : D → Option Ov} {z : Ov} (r : RepL R vs ds) (h : b1 f ds = some z) : ∃ d v, ds = [d] ∧ vs = [v] ∧ Rep R v d ∧ f d = some z := by
  unfold b1 at h
  split at h
  · obtain ⟨v, ev, r1⟩ := repL1 r
    exact ⟨_, v, rfl, ev, r1, h⟩
  · cases h
theorem b2_inv {R : RC} {vs : List V} {ds : List D} {f : D → D → Option Ov} {z : Ov} (r : RepL R vs ds) (h : b2 f ds = some z) : ∃ d e v w, ds = [d, e] ∧ vs = [v, w] ∧ Rep R v d ∧ Rep R w e ∧ f d e = some z := by
  unfold b2 at h
  split at h
  · obtain ⟨v, w, ev, r1, r2⟩ := repL2 r
    exact ⟨_, _, v, w, rfl, ev, r1, r2, h⟩
  · cases h
theorem int1_inv {d : D} {f : Int → Option Ov} {z : Ov} (h : int1 f d = some z) : ∃ i, d = .int i ∧ f i = some z := by
  unfold int1 at h
  split at h
  · exact ⟨_, rfl, h⟩
  · cases h
theorem lst1_inv {S : List (Option D)} {d : D} {f : List D → Option Ov} {z : Ov} (h : lst1 S f d = some z) : ∃ xs, de S d = some (.lst xs) ∧ f xs = some z := by
  unfold lst1 at h
  split at h
  · rename_i xs e
    exact ⟨xs, e, h⟩
  · cases h
theorem map_inv {α β : Type} {o : Option α} {f : α → β} {z : β} (h : o.map f = some z) : ∃ a, o = some a ∧ f a = z := by
  cases o with
  | none => cases h
  | some a => exact ⟨a, rfl, Option.some.inj h⟩
theorem callr_len {md : Nat} : CallR X (.builtin "len") (rB X.K cl W .len md) := by
  refine CallR.imp call_len fun vs H Q ⟨σ, R, τ, ds, hH, A, r, h⟩ => ?_
  subst hH
  obtain ⟨z, hz, h⟩ := rdAt_opS h
  obtain ⟨d, v, e1, ev, r1, hz⟩ := b1_inv r hz
  obtain ⟨n, q, ez⟩ := map_inv hz
  subst ez
  exact ⟨v, n, ev, len_V A.K A.cells r1 q, rdAt_pure h A rep_int⟩
theorem callr_abs {md : Nat} : CallR X (.builtin "abs") (rB X.K cl W .abs md) := by
  refine CallR.imp call_abs fun vs H Q ⟨σ, R, τ, ds, hH, A, r, h⟩ => ?_
  subst hH
  obtain ⟨z, hz, h⟩ := rdAt_opS h
  obtain ⟨d, v, e1, ev, r1, hz⟩ := b1_inv r hz
  obtain ⟨i, ei, hz2⟩ := int1_inv hz
  subst ei
  cases hz2
  exact ⟨i, by rw [ev, de_int r1], rdAt_pure h A rep_int⟩
theorem callr_int {md : Nat} : CallR X (.type "int") (rB X.K cl W .int md) := by
  refine CallR.imp call_int1 fun vs H Q ⟨σ, R, τ, ds, hH, A, r, h⟩ => ?_
  subst hH
  obtain ⟨z, hz, h⟩ := rdAt_opS h
  obtain ⟨d, v, e1, ev, r1, hz⟩ := b1_inv r hz
  unfold toInt1 at hz
  split at hz
  · rename_i i
    cases hz
    exact .inl ⟨i, by rw [ev, de_int r1], rdAt_pure h A rep_int⟩
  · rename_i i
    cases hz
    exact .inr ⟨i, by rw [ev, de_bl r1], rdAt_pure h A rep_int⟩
  · cases hz
theorem callr_str {md : Nat} : CallR X (.type "str") (rB X.K cl W .str md) := by
  refine CallR.imp call_str_int fun vs H Q ⟨σ, R, τ, ds, hH, A, r, h⟩ => ?_
  subst hH
  obtain ⟨z, hz, h⟩ := rdAt_opS h
  obtain ⟨d, v, e1, ev, r1, hz⟩ := b1_inv r hz
  obtain ⟨i, ei, hz2⟩ := int1_inv hz
  subst ei
  split at hz2
  · cases hz2
    exact ⟨i, by rw [ev, de_int r1], by assumption, rdAt_pure h A rep_str⟩
  · cases hz2
theorem callr_all {md : Nat} (hc : X.calm = true) : CallR X (.builtin "all") (rB X.K cl W .all md) := by
  refine CallR.imp (cr_all hc) fun vs H Q ⟨σ, R, τ, ds, hH, A, r, h⟩ => ?_
  subst hH
  obtain ⟨z, hz, h⟩ := rdAt_opS h
  obtain ⟨d, v, e1, ev, r1, hz⟩ := b1_inv r hz
  obtain ⟨xs, hd, hz⟩ := lst1_inv hz
  obtain ⟨p, ws, e2, hp, rp⟩ := de_lst A.cells r1 hd
  obtain ⟨bs, q, ez⟩ := map_inv hz
  subst ez
  exact ⟨p, bs, by rw [ev, e2], by rw [← rep_bools rp q]; exact SqL.of hp, rdAt_pure h A rep_bl⟩
theorem callr_any {md : Nat} (hc : X.calm = true) : CallR X (.builtin "any") (rB X.K cl W .any md) := by
  refine CallR.imp (cr_any hc) fun vs H Q ⟨σ, R, τ, ds, hH, A, r, h⟩ => ?_
  subst hH
  obtain ⟨z, hz, h⟩ := rdAt_opS h
  obtain ⟨d, v, e1, ev, r1, hz⟩ := b1_inv r hz
  obtain ⟨xs, hd, hz⟩ := lst1_inv hz
  obtain ⟨p, ws, e2, hp, rp⟩ := de_lst A.cells r1 hd
  obtain ⟨bs, q, ez⟩ := map_inv hz
  subst ez
  exact ⟨p, bs, by rw [ev, e2], by rw [← rep_bools rp q]; exact SqL.of hp, rdAt_pure h A rep_bl⟩
theorem callr_sum {md : Nat} (hc : X.calm = true) : CallR X (.builtin "sum") (rB X.K cl W .sum md) := by
  refine CallR.imp (cr_sum hc) fun vs H Q ⟨σ, R, τ, ds, hH, A, r, h⟩ => ?_
  subst hH
  obtain ⟨z, hz, h⟩ := rdAt_opS h
  obtain ⟨d, v, e1, ev, r1, hz⟩ := b1_inv r hz
  obtain ⟨xs, hd, hz⟩ := lst1_inv hz
  obtain ⟨p, ws, e2, hp, rp⟩ := de_lst A.cells r1 hd
  obtain ⟨bs, q, ez⟩ := map_inv hz
  subst ez
  exact ⟨p, bs, by rw [ev, e2], by rw [← rep_ints rp q]; exact SqL.of hp, rdAt_pure h A rep_int⟩
theorem callr_list {md : Nat} : CallR X (.type "list") (rB X.K cl W .list md) := by
  refine CallR.imp call_list_of fun vs H Q ⟨σ, R, τ, ds, hH, A, r, h⟩ => ?_
  subst hH
  obtain ⟨z, hz, h⟩ := rdAt_opS h
  obtain ⟨d, v, e1, ev, r1, hz⟩ := b1_inv r hz
  obtain ⟨xs, q, ez⟩ := map_inv hz
  subst ez
  obtain ⟨p, ws, e2, hp, rp⟩ := seq_case A.cells r1 q
  exact ⟨p, ws, by rw [ev, e2], hp.elim (fun z => .inl (SqL.of z)) (fun z => .inr (SqT.of z)), rdAt_new h A ⟨_, rfl, rp⟩⟩
theorem callr_tuple {md : Nat} : CallR X (.type "tuple") (rB X.K cl W .tuple md) := by
  refine CallR.imp call_tuple_of fun vs H Q ⟨σ, R, τ, ds, hH, A, r, h⟩ => ?_
  subst hH
  obtain ⟨z, hz, h⟩ := rdAt_opS h
  obtain ⟨d, v, e1, ev, r1, hz⟩ := b1_inv r hz
  obtain ⟨xs, q, ez⟩ := map_inv hz
  subst ez
  unfold seqD at q
  split at q
  · rename_i xs' hd
    cases q
    obtain ⟨p, ws, e2, hp, rp⟩ := de_lst A.cells r1 hd
    refine ⟨p, ws, by rw [ev, e2], .inl ⟨SqL.of hp, fun l hl => ?_⟩⟩
    exact h (.ref l) (R.upd l (.tup ws)) (Ext.new hl) rfl (A.new hl) (by
      show Rep (R.upd l (.tup ws)) (.ref l) (.tup xs)
      unfold Rep
      exact ⟨l, _, rfl, upd_same, A.cells.nl hl, RepL.ext (Ext.new hl) rp⟩)
  · rename_i xs' hd
    cases q
    have r2 : Rep R v (.tup xs) := by
      rcases rep_de A.cells r1 hd with ⟨_, _, o, _, _, _, ro⟩ | ⟨r, _⟩
      · exact ro.elim
      · exact r
    obtain ⟨p, ws, e2, hp, rp⟩ := de_tup A.cells r1 hd
    exact ⟨p, ws, by rw [ev, e2], .inr ⟨SqT.of hp, rdAt_pure h A (by rw [← e2]; exact r2)⟩⟩
  · cases q
theorem callr_max {md : Nat} (hc : X.calm = true) : CallR X (.builtin "max") (rB X.K cl W .max md) := by
  refine CallR.imp (call_max2 hc) fun vs H Q ⟨σ, R, τ, ds, hH, A, r, h⟩ => ?_
  subst hH
  obtain ⟨z, hz, h⟩ := rdAt_opS h
  obtain ⟨d, e, v, w, e1, ev, r1, r2, hz⟩ := b2_inv r hz
  obtain ⟨i, ei, hz2⟩ := int1_inv hz
  obtain ⟨j, ej, hz3⟩ := int1_inv hz2
  subst ei ej
  cases hz3
  exact ⟨i, j, by rw [ev, de_int r1, de_int r2], rdAt_pure h A rep_int⟩
theorem callr_min {md : Nat} (hc : X.calm = true) : CallR X (.builtin "min") (rB X.K cl W .min md) := by
  refine CallR.imp (call_min2 hc) fun vs H Q ⟨σ, R, τ, ds, hH, A, r, h⟩ => ?_
  subst hH
  obtain ⟨z, hz, h⟩ := rdAt_opS h
  obtain ⟨d, e, v, w, e1, ev, r1, r2, hz⟩ := b2_inv r hz
  obtain ⟨i, ei, hz2⟩ := int1_inv hz
  obtain ⟨j, ej, hz3⟩ := int1_inv hz2
  subst ei ej
  cases hz3
  exact ⟨i, j, by rw [ev, de_int r1, de_int r2], rdAt_pure h A rep_int⟩
abbrev bltM (b : Bl) (md : Nat) (ml : M (List D)) : M D := M.bind ml fun ds => M.bind (opS (fun S _ => bltD S b ds) ()) (fin md)
theorem blt_read {b : Bl} {md : Nat} {σ : St} {H : Hp} {Q : VK} (h : rd relD X.K cl W (bltM b md ml) σ H Q) : tCB (rB X.K cl W b md) (rd relL X.K cl W ml) σ H Q := by
  obtain ⟨R, τ, hH, A, h⟩ := h
  exact ⟨R, τ, hH, A, rdAt_mono (rdAt_bind (rel := relL) h) fun vs H1 ⟨R1, τ1, ds, e1, x1, A1, r1, h1⟩ => ⟨σ, R1, τ1, ds, e1, A1, r1, h1⟩⟩
def noStars (es : List Expr) : Bool := es.all notStar
theorem stars_plain : ∀ {es : List Expr} (h : noStars es = true) (env : Env) (pos : Pos), (backTo pos (starEach es env)).any (·.1) = false
  | [], _, _, _ => rfl
  | e :: es, h, env, pos => by
    obtain ⟨h1, h2⟩ := Bool.and_eq_true_iff.mp (show (notStar e && noStars es) = true from h)
    rw [star_plain h1]
    show (false || (backTo pos (starEach es env)).any (·.1)) = false
    rw [stars_plain h2]
    rfl
theorem se_bltB {b : Bl} {md : Nat} {id : String} (hc : CallR X (.builtin id) (rB X.K cl W b md)) (hg : Gl X x) (hm : X.mg x = none) (hv : bootBuiltins x = some (.builtin id)) (hn : x ≠ "__name__") (hdb : (x == ("__debug__" : Str)) = false)
    (hs : noStars (e :: es) = true) (ha : SA X cl W (e :: es) ml) : SE X cl W (.Call (.Name x p) (e :: es) [] pos) (bltM b md ml) := by
  obtain ⟨h1, h2⟩ := Bool.and_eq_true_iff.mp (show (notStar e && noStars es) = true from hs)
  exact PE.weak (pe_callB hc hg hm hv ha hn hdb (star_plain h1 _) (stars_plain h2 _ _)) fun _ _ _ h => blt_read h
theorem se_bltT {b : Bl} {md : Nat} {T : String} (hc : CallR X (.type T) (rB X.K cl W b md)) (hg : Gl X x) (hm : X.mg x = none) (hv : bootBuiltins x = some (.type T)) (hn : x ≠ "__name__") (hdb : (x == ("__debug__" : Str)) = false)
    (hs : noStars (e :: es) = true) (ha : SA X cl W (e :: es) ml) : SE X cl W (.Call (.Name x p) (e :: es) [] pos) (bltM b md ml) := by
  obtain ⟨h1, h2⟩ := Bool.and_eq_true_iff.mp (show (notStar e && noStars es) = true from hs)
  exact PE.weak (pe_callTy hc hg hm hv ha hn hdb (star_plain h1 _) (stars_plain h2 _ _)) fun _ _ _ h => blt_read h
theorem rg_rep {R : RC} (n : Int) : RepL R (rgV 0 n) ((List.range n.toNat).map fun k : Nat => D.int (k : Int)) := by
  have gen : ∀ l : List Nat, RepL R (l.map fun i => V.int (0 + (i : Nat))) (l.map fun k : Nat => D.int (k : Int)) := by
    intro l
    induction l with
    | nil => exact RepL.nil
    | cons k l ih => exact RepL.cons (by unfold Rep; show V.int (0 + (k : Int)) = V.int k; rw [Int.zero_add]) ih
  unfold rgV
  rw [Int.sub_zero]
  exact gen _
/-- list(range(n)) -/
theorem se_listRange {md : Nat} {p' q' : Pos} (hc : X.calm = true) (hg : Gl X "list") (hm : X.mg "list" = none) (hg2 : Gl X "range") (hm2 : X.mg "range" = none) (hs : notStar e = true) (ha : SE X cl W e ma) :
    SE X cl W (.Call (.Name "list" p) [.Call (.Name "range" p') [e] [] q'] [] pos) (bltM .listRange md (M.bind ma fun x => M.bind (M.pure []) fun xs => M.pure (x :: xs))) := by
  refine PE.weak (pe_listRg hc hg hm (prg_1 hg2 hm2 ha (star_plain hs _))) fun σ H Q h => ?_
  obtain ⟨R, τ, hH, A, h⟩ := h
  unfold bltM at h
  rw [M.bind_assoc] at h
  refine ⟨R, τ, hH, A, rdAt_mono (rdAt_bind (rel := relD) h) fun v H1 ⟨R1, τ1, d, e1, x1, A1, r1, h1⟩ => ?_⟩
  subst e1
  obtain ⟨z, hz, h2⟩ := rdAt_opS (show rdAt relD X.K cl W R1 τ1 (M.bind (opS (fun S _ => bltD S .listRange [d]) ()) (fin md)) σ Q from h1)
  obtain ⟨j, ej, hz'⟩ := int1_inv (show int1 _ d = some z from hz)
  subst ej
  split at hz'
  · rename_i hj
    cases hz'
    refine ⟨j, de_int r1, ⟨by decide, by decide, hj.1, hj.2.1, ?_⟩, rdAt_new h2 A1 ⟨_, rfl, rg_rep j⟩⟩
    have z := hj.2.2
    rw [sizeLine_eq] at z
    rw [Int.sub_zero]
    exact z
  · cases hz'
end
end Gc

end

section
set_option Elab.async false
set_option linter.all false
set_option maxRecDepth 100000
set_option maxHeartbeats 1000000
/-! the interpreter is sound: fields, isinstance, calls -/
namespace Gc
open PySem PySem.Spec L2

/-! ### what the written part says of the classes -/
def tyD (cl : CL) : D → Value
  | .non => .type "NoneType"
  | .bl _ => .type "bool"
  | .int _ => .type "int"
  | .str _ => .type "str"
  | .lst _ => .type "list"
  | .scr _ => .type "list"
  | .tup _ => .type "tuple"
  | .dK _ _ => .type "dict"
  | .dT _ _ => .type "dict"
  | .obj c _ _ => .ref (cl c)
  | .ref _ => .none
  | .fn _ => .type "function"
  | .exc => .none
def tyT (cl : CL) : Ty → Value
  | .int => .type "int" | .bool => .type "bool" | .str => .type "str" | .list => .type "list" | .tuple => .type "tuple" | .dict => .type "dict"
  | .cls c => .ref (cl c)
def tyVT (cl : CL) : Ty → V
  | .int => .ty "int" | .bool => .ty "bool" | .str => .ty "str" | .list => .ty "list" | .tuple => .ty "tuple" | .dict => .ty "dict"
  | .cls c => .ref (cl c)
theorem clsV_T (cl : CL) : ∀ t : Ty, ClsV (tyVT cl t) (tyT cl t)
  | .int => .ty _ | .bool => .ty _ | .str => .ty _ | .list => .ty _ | .tuple => .ty _ | .dict => .ty _ | .cls c => .own _
structure Kit (K : PySem.W.Frag) (cl : CL) (P : Pg) : Prop where
  cls : ∀ c, plainCl P c = true → Cls K (cl c)
  noat : ∀ c q f, P.cl c = some q → q.exc = none → f ∈ q.fields → NoAttr K (cl c) f
  ty : ∀ c, plainCl P c = true → PySem.W.findIn K (.ref (cl c)) "__class__" = some (some (.builtin "object.__class__")) ∧
      PySem.W.specialIn K (.builtin "object.__class__") "__get__" = some (some (.builtin "getset_descriptor.__get__")) ∧ PySem.W.takesIn K (.builtin "object.__class__") = some true ∧ PySem.W.mroIn K (cl c) (.type "object") = some true
  kit : ∀ d t, okD P d = true → okTy P t = true → PySem.W.kitOne K (tyD cl d) (tyT cl t) = some (isTy P d t)
  nf : ∀ c d, plainCl P c = true → okD P d = true → PySem.W.notFirst K (cl c) (tyD cl d) = true

section
variable {X : Cx} {cl : CL} {W : WX} {a b c e o : Expr} {pos p2 p apos : Pos} {ma mb mc : M D} {rest es : List Expr} {ml : M (List D)} {x : Str} {P : Pg}

theorem rep_tyX {R : RC} (kit : Kit X.K cl P) (hcl : R.cl = cl) {v : V} {d : D} (ok : okD P d = true) (r : Rep R v d) : TyX X.K R.H v (tyD cl d) := by
  cases d with
  | non => unfold Rep at r; subst r; exact .base .non
  | bl b => unfold Rep at r; subst r; exact .base (.bl b)
  | int b => unfold Rep at r; subst r; exact .base (.int b)
  | str b => unfold Rep at r; subst r; exact .base (.str b)
  | lst xs => unfold Rep at r; obtain ⟨a, vs, e, hh, _⟩ := r; subst e; exact .base (.lst hh)
  | tup xs => unfold Rep at r; obtain ⟨a, vs, e, hh, _⟩ := r; subst e; exact .base (.tup hh)
  | dK ks xs => unfold Rep at r; obtain ⟨a, vs, e, hh, _⟩ := r; subst e; exact .base (.dK hh)
  | dT ks xs => unfold Rep at r; obtain ⟨a, vs, e, hh, _⟩ := r; subst e; exact .base (.dT hh)
  | obj c ns xs =>
    unfold Rep at r
    obtain ⟨a, dx, fs, e, hh, _⟩ := r
    subst e
    rw [hcl] at hh
    obtain ⟨h1, h2, h3, h4⟩ := kit.ty c ok
    exact .base (.ins hh (kit.cls c ok) h1 h2 h3 h4)
  | ref n => cases ok
  | exc => unfold Rep at r; exact r.elim
  | fn f => cases ok
  | scr ns => cases ok
theorem repH_tyX {R : RC} (kit : Kit X.K cl P) (hcl : R.cl = cl) {o : HO} {a : Addr} {d : D} (ok : okD P d = true) (h : R.H a = some o) (r : RepH R o d) : TyX X.K R.H (.ref a) (tyD cl d) := by
  cases d with
  | lst xs => obtain ⟨vs, e, _⟩ := r; subst e; exact .base (.lst h)
  | dK ks xs => obtain ⟨vs, e, _⟩ := r; subst e; exact .base (.dK h)
  | dT ks xs => obtain ⟨vs, e, _⟩ := r; subst e; exact .base (.dT h)
  | obj c ns xs =>
    obtain ⟨dx, fs, e, _⟩ := r
    subst e
    rw [hcl] at h
    obtain ⟨h1, h2, h3, h4⟩ := kit.ty c ok
    exact .base (.ins h (kit.cls c ok) h1 h2 h3 h4)
  | _ => exact r.elim
theorem kitAny_all {K : PySem.W.Frag} (kit : Kit K cl P) {d : D} (ok : okD P d = true) : ∀ ts : List Ty, ts.all (okTy P) = true → PySem.W.kitAny K (tyD cl d) (ts.map (tyT cl)) = some (ts.any (isTy P d))
  | [], _ => rfl
  | t :: ts, h => by
    obtain ⟨h1, h2⟩ := Bool.and_eq_true_iff.mp (show (okTy P t && ts.all (okTy P)) = true from h)
    refine kitAny_cons (kit.kit d t ok h1) (fun hb => ?_) fun hb => ?_
    · show _ = some (isTy P d t || ts.any (isTy P d))
      rw [hb, Bool.false_or]
      exact kitAny_all kit ok ts h2
    · show (isTy P d t || ts.any (isTy P d)) = true
      rw [hb]
      rfl
theorem isi_read {R : RC} {σ : St} {τ : List (Option D)} (kit : Kit X.K cl P) (A : At X.K cl R σ τ) {v : V} {d : D} {ts : List Ty} {k : Bool} (r : Rep R v d) (h : isiD P R.S d ts = some k) :
    ∃ e, okD P e = true ∧ ts.all (okTy P) = true ∧ TyX X.K R.H v (tyD cl e) ∧ k = ts.any (isTy P e) := by
  unfold isiD at h
  cases q : de R.S d with
  | none => rw [q] at h; cases h
  | some e =>
    rw [q] at h
    simp only [Option.bind_some] at h
    split at h
    · rename_i hh
      obtain ⟨h1, h2⟩ := Bool.and_eq_true_iff.mp hh
      cases h
      refine ⟨e, h1, h2, ?_, rfl⟩
      rcases rep_de A.cells r q with ⟨n, _, o, ev, _, ho, ro⟩ | ⟨r, _⟩
      · subst ev
        exact repH_tyX kit A.cl h1 ho ro
      · exact rep_tyX kit A.cl h1 r
    · cases h
/-- the class that a name tells -/
def TyE (X : Cx) (cl : CL) (e : Expr) (t : Ty) : Prop := notStar e = true ∧ PE X e (tC (tyVT cl t))
abbrev isiM (P : Pg) (ts : List Ty) (ma : M D) : M D := M.bind ma fun d => M.bind (opS (fun S _ => isiD P S d ts) ()) fun k => M.pure (.bl k)
theorem se_isi1 {t : Ty} (kit : Kit X.K cl P) (hg : Gl X "isinstance") (hm : X.mg "isinstance" = none) (hs : notStar a = true) (ha : SE X cl W a ma) (ht : TyE X cl b t) :
    SE X cl W (.Call (.Name "isinstance" p) [a, b] [] pos) (isiM P [t] ma) := by
  refine PE.weak (pe_callB call_isi hg hm (by decide +kernel) (pa_cons ha (pa_cons ht.2 pa_nil (star_plain ht.1 _)) (star_plain hs _)) (by decide) (by decide) (star_plain hs _) (stars_plain (by show (notStar b && true) = true; rw [ht.1]; rfl) _ _)) fun σ H Q h => ?_
  obtain ⟨R, τ, hH, A, h⟩ := h
  refine ⟨R, τ, hH, A, rdAt_mono (rdAt_bind (rel := relD) h) fun v H1 ⟨R1, τ1, d, e1, x1, A1, r1, h1⟩ => ?_⟩
  subst e1
  obtain ⟨k, hk, h2⟩ := rdAt_opS h1
  obtain ⟨e, o1, o2, ty, ek⟩ := isi_read kit A1 r1 hk
  have o3 : okTy P t = true := (Bool.and_eq_true_iff.mp (show (okTy P t && true) = true from o2)).1
  refine ⟨v, tyVT cl t, tyD cl e, tyT cl t, isTy P e t, rfl, clsV_T cl t, ty, kit.kit e t o1 o3, ?_⟩
  have e2 : k = isTy P e t := by rw [ek]; show (isTy P e t || false) = _; rw [Bool.or_false]
  rw [← e2]
  exact rdAt_pure h2 A1 rep_bl
/-- the classes of a written tuple -/
inductive TyEs (X : Cx) (cl : CL) : List Expr → List Ty → Prop where
  | nil : TyEs X cl [] []
  | cons {e : Expr} {es : List Expr} {t : Ty} {ts : List Ty} (h : TyE X cl e t) (r : TyEs X cl es ts) : TyEs X cl (e :: es) (t :: ts)
def tTys (vs : List V) : TA := fun _ H Q => Q vs H
theorem pa_tys : ∀ {es : List Expr} {ts : List Ty}, TyEs X cl es ts → PA X es (tTys (ts.map (tyVT cl)))
  | _, _, .nil => pa_nil
  | _, _, .cons h r => PA.weak (pa_cons h.2 (pa_tys r) (star_plain h.1 _)) fun _ _ _ h => h
theorem clsV_all : ∀ ts : List Ty, Paired ClsV (ts.map (tyVT cl)) (ts.map (tyT cl))
  | [] => .nil
  | t :: ts => .cons (clsV_T cl t) (clsV_all ts)
theorem se_isiT {ts : List Ty} {kk : Nat} (kit : Kit X.K cl P) (hl : ts.length ≤ sizeLine) (hg : Gl X "isinstance") (hm : X.mg "isinstance" = none) (hs : notStar a = true) (ha : SE X cl W a ma) (ht : TyEs X cl es ts) :
    SE X cl W (.Call (.Name "isinstance" p) [a, .Tuple es kk p2] [] pos) (isiM P ts ma) := by
  refine PE.weak (pe_callB call_isiT hg hm (by decide +kernel) (pa_cons ha (pa_cons (pe_tup (pa_tys ht)) pa_nil rfl) (star_plain hs _)) (by decide) (by decide) (star_plain hs _) rfl) fun σ H Q h => ?_
  obtain ⟨R, τ, hH, A, h⟩ := h
  refine ⟨R, τ, hH, A, rdAt_mono (rdAt_bind (rel := relD) h) fun v H1 ⟨R1, τ1, d, e1, x1, A1, r1, h1⟩ => ?_⟩
  subst e1
  refine ⟨by rw [List.length_map]; exact hl, fun tp htp => ?_⟩
  have x2 := Ext.new (o := .tup (ts.map (tyVT cl))) htp
  have A2 := A1.new (o := .tup (ts.map (tyVT cl))) htp
  obtain ⟨k, hk, h2⟩ := rdAt_opS h1
  obtain ⟨e, o1, o2, ty, ek⟩ := isi_read (R := R1.upd tp (.tup (ts.map (tyVT cl)))) kit A2 (Rep.ext x2 r1) hk
  refine ⟨v, tp, _, tyD cl e, ts.map (tyT cl), k, rfl, upd_same, clsV_all ts, ty, by rw [ek]; exact kitAny_all kit o1 ts o2, ?_⟩
  exact h2 (.bl k) (R1.upd tp (.tup (ts.map (tyVT cl)))) x2 rfl A2 rep_bl

/-! ### fields -/
/-- no call without arguments: its base is plain -/
def base0 : Expr → Bool
  | .Call (.Name _ _) [] [] _ => false
  | _ => true
theorem base_eq {f : Str} (h : base0 o = true) (env : Env) (w : Sem Value) : attributeBase o f env w = w := by
  unfold attributeBase
  split
  · cases h
  · rfl
theorem lookK_lookup {R : RC} {k : Str} : ∀ {kvs : List (Str × V)} {ks : List Str} {xs : List D} {d : D}, kvs.map (·.1) = ks → RepL R (kvs.map (·.2)) xs → lookK k ks xs = some d → ∃ v, kvs.lookup k = some v ∧ Rep R v d
  | [], ks, xs, d, e, r, h => by
    cases e
    cases xs <;> cases h
  | (k', v) :: kvs, ks, xs, d, e, r, h => by
    cases e
    cases xs with
    | nil => cases h
    | cons x xs =>
      simp only [List.map_cons] at r h
      unfold RepL at r
      obtain ⟨v', w, ev, r1, r2⟩ := r
      cases ev
      unfold lookK at h
      by_cases hk : k = k'
      · rw [if_pos hk] at h
        cases h
        exact ⟨v, by simp [List.lookup, hk], r1⟩
      · rw [if_neg hk] at h
        obtain ⟨v2, h1, h2⟩ := lookK_lookup rfl r2 h
        have hb : (k == k') = false := by simpa using hk
        exact ⟨v2, by simp only [List.lookup, hb]; exact h1, h2⟩
theorem lookup_none {k : Str} : ∀ {kvs : List (Str × V)}, k ∉ kvs.map (·.1) → kvs.lookup k = none
  | [], _ => rfl
  | (k', v) :: kvs, h => by
    simp only [List.map_cons, List.mem_cons, not_or] at h
    have hb : (k == k') = false := by simpa using h.1
    simp only [List.lookup, hb]
    exact lookup_none h.2
/-- an object: a tree, or a live one -/
theorem de_obj {R : RC} (C : Cells R) {v : V} {d : D} {c : Nat} {ns : List Str} {xs : List D} (r : Rep R v d) (h : de R.S d = some (.obj c ns xs)) :
    ∃ a dx fs, v = .ref a ∧ R.H a = some (.ins (R.cl c) dx fs) ∧ fs.map (·.1) = ns ∧ RepL R (fs.map (·.2)) xs := by
  rcases rep_de C r h with ⟨n, _, o, e, _, ho, ro⟩ | ⟨r, _⟩
  · obtain ⟨dx, fs, eo, q, rr⟩ := ro
    subst eo
    exact ⟨_, dx, fs, e, ho, q, rr⟩
  · unfold Rep at r
    obtain ⟨a, dx, fs, e, hh, _, q, rr⟩ := r
    exact ⟨a, dx, fs, e, hh, q, rr⟩
theorem se_attr {f : Str} (kit : Kit X.K cl P) (pl : ∀ c q, P.cl c = some q → q.exc ≠ none → q.fields = []) (hb : base0 a = true) (ha : SE X cl W a ma) : SE X cl W (.Attribute a f pos) (M.bind ma fun d => opS (fun S _ => attrD P S d f) ()) := by
  refine PE.weak (pe_fld ha (base_eq hb _ _)) fun σ H Q h => ?_
  obtain ⟨R, τ, hH, A, h⟩ := h
  refine ⟨R, τ, hH, A, rdAt_mono (rdAt_bind (rel := relD) h) fun v H1 ⟨R1, τ1, d, e1, x1, A1, r1, h1⟩ => ?_⟩
  subst e1
  obtain ⟨z, hz, h2⟩ := rdAt_opS' h1
  unfold attrD at hz
  split at hz
  · rename_i c ns xs hd
    obtain ⟨p, dx, fs, ev, hp, en, rr⟩ := de_obj A1.cells r1 hd
    cases q : P.cl c with
    | none => rw [q] at hz; cases hz
    | some k =>
      rw [q] at hz
      simp only [Option.bind_some] at hz
      split at hz
      · rename_i hf
        obtain ⟨w, h3, h4⟩ := lookK_lookup en rr hz
        have hx : k.exc = none := by
          cases hx : k.exc with
          | none => rfl
          | some z =>
            rw [pl c k q (by rw [hx]; exact fun z => nomatch z)] at hf
            cases hf
        have hc : plainCl P c = true := by unfold plainCl; rw [q]; simp [hx]
        rw [A1.cl] at hp
        exact ⟨p, cl c, dx, fs, w, ev, hp, kit.cls c hc, kit.noat c k f q hx hf, h3, rdAt_pure h2 A1 h4⟩
      · cases hz
  · cases hz
end
end Gc

end

section
set_option Elab.async false
set_option linter.all false
set_option maxRecDepth 100000
set_option maxHeartbeats 1000000
/-! the interpreter is sound: calls -/
namespace Gc
open PySem PySem.Spec L2

/-- what a def promises: as the interpreter runs it -/
def spF (K : PySem.W.Frag) (cl : CL) (hc : Hc) (f np : Nat) : Sp := fun vs H Q E => vs.length = np ∧ ∃ R ds md, R.H = H ∧ R.K = K ∧ R.cl = cl ∧ Cells R ∧ RepL R vs ds ∧
  match hc f ds md R.S with
  | .ok d S => ∀ v R', Ext R R' → R'.S = S → Cells R' → Rep R' v d → Q v R'.H
  | .exn c ns xs S => ∀ R' cls dd, Ext R R' → R'.S = S → Cells R' → RepX R' c ns xs cls dd → E cls dd R'.H
  | .bad => False
/-- the def number f stands at fa and keeps it -/
def KBinds (K : PySem.W.Frag) (fd : FuncData) (ps : List Str) : Prop := ∀ (s : Shared) (us ws : List Value), K.In s.heap → us.length + ws.length = ps.length → BindsTo s fd ⟨us, (ps.drop us.length).zip ws⟩ (ps.zip (us ++ ws))
def FnH (prog : Program) (w : World) (K : PySem.W.Frag) (mg : Str → Option Value) (base : Heap) (cl : CL) (hc : Hc) (k f : Nat) (ps : List Str) (fa : Addr) : Prop :=
  ∃ fd, FnOk prog w K mg base (CX prog w) k fa fd ps (spF K cl hc f ps.length) ∧ PySem.W.keepIn K (.ref fa) = true ∧ Binds K fd ps [] ∧ KBinds K fd ps

section
variable {X : Cx} {cl : CL} {W : WX} {a b c e o : Expr} {pos p2 p apos : Pos} {ma mb mc mo : M D} {rest es : List Expr} {ml : M (List D)} {x : Str} {P : Pg} {hc : Hc} {k f np : Nat} {fa : Addr}

theorem sp_of_call {R : RC} {σ : St} {τ : List (Option D)} {md : Nat} {Q : VK} {vs : List V} {ds : List D} (A : At X.K cl R σ τ) (r : RepL R vs ds) (hl : ds.length = np) (h : rdAt relD X.K cl W R τ (callM hc f ds md) σ Q) :
    spF X.K cl hc f np vs R.H Q (WE W σ) := by
  refine ⟨by rw [r.length]; exact hl, R, ds, md, rfl, A.K, A.cl, A.cells, r, ?_⟩
  unfold rdAt callM at h
  dsimp only at h
  cases q : hc f ds md R.S with
  | ok d S =>
    rw [q] at h
    dsimp only at h ⊢
    exact fun v R' x1 e1 C1 r1 => h v R' x1 e1 ⟨x1.K.trans A.K, x1.cl.trans A.cl, C1, A.slots.ext x1⟩ r1
  | exn c ns xs S =>
    rw [q] at h
    dsimp only at h ⊢
    exact fun R' cls dd x1 e1 C1 r1 => h R' cls dd x1 e1 ⟨x1.K.trans A.K, x1.cl.trans A.cl, C1, A.slots.ext x1⟩ r1
  | bad =>
    rw [q] at h
    exact h
theorem callP_at {R : RC} {σ : St} {τ : List (Option D)} {md : Nat} {Q : VK} {ds : List D} {q : Fn} (hq : P.fns[f]? = some q) (h : rdAt relD X.K cl W R τ (callP P hc f ds md) σ Q) : ds.length = q.np ∧ rdAt relD X.K cl W R τ (callM hc f ds md) σ Q := by
  unfold callP at h
  rw [hq] at h
  dsimp only at h
  split at h
  · exact ⟨by assumption, h⟩
  · exact h.elim
theorem se_call {md : Nat} {q : Fn} (hq : P.fns[f]? = some q) (F : FnH X.prog X.w X.K X.mg X.base cl hc k f q.ps fa) (hr : Room k X.A) (tk : Takes X W) (hg : Gl X x) (hm : X.mg x = some (.ref fa)) (hdb : (x == ("__debug__" : Str)) = false)
    (hs : noStars (e :: es) = true) (ha : SA X cl W (e :: es) ml) : SE X cl W (.Call (.Name x p) (e :: es) [] pos) (M.bind ml fun ds => callP P hc f ds md) := by
  obtain ⟨fd, F, hk, hb, _⟩ := F
  obtain ⟨h1, h2⟩ := Bool.and_eq_true_iff.mp (show (notStar e && noStars es) = true from hs)
  refine PE.weak (pe_callSD (dvs := []) (ds := []) (E := WE W) F hr hg hm hk hb .nil (fun σ => passAt tk σ) ha hdb (star_plain h1 _) (stars_plain h2 _ _)) fun σ H Q h => ?_
  obtain ⟨R, τ, hH, A, h⟩ := h
  refine ⟨R, τ, hH, A, rdAt_mono (rdAt_bind (rel := relL) h) fun vs H1 ⟨R1, τ1, ds, e1, x1, A1, r1, h1⟩ => ?_⟩
  subst e1
  obtain ⟨hl, h1⟩ := callP_at hq h1
  rw [List.append_nil]
  exact sp_of_call A1 r1 hl h1
theorem se_call0 {md : Nat} {q : Fn} (hq : P.fns[f]? = some q) (F : FnH X.prog X.w X.K X.mg X.base cl hc k f q.ps fa) (hr : Room k X.A) (tk : Takes X W) (hg : Gl X x) (hm : X.mg x = some (.ref fa)) (hdb : (x == ("__debug__" : Str)) = false) :
    SE X cl W (.Call (.Name x p) [] [] pos) (M.bind (M.pure []) fun ds => callP P hc f ds md) := by
  obtain ⟨fd, F, hk, hb, _⟩ := F
  refine ⟨fun pins s σ H Q I h => ?_⟩
  refine wpAny_Call_Name_kw (ld_glob I hg hm ?_ hdb)
  obtain ⟨R, τ, hH, A, h⟩ := h
  subst hH
  obtain ⟨hl, h1⟩ := callP_at (ds := []) hq h
  exact PySem.W.callWith_K0 I.kIn hk (run_fnSD (us := []) (vs := []) (dvs := []) (ds := []) (E := WE W) F hr hb .nil (passAt tk σ) I .nil (sp_of_call A RepL.nil hl h1))

/-! ### methods -/
theorem stars_few : ∀ {es : List Expr} (h : noStars es = true) (env : Env) (pos : Pos), (backTo pos (starEach es env)).all (fun x => !x.1) = true
  | [], _, _, _ => rfl
  | e :: es, h, env, pos => by
    obtain ⟨h1, h2⟩ := Bool.and_eq_true_iff.mp (show (notStar e && noStars es) = true from h)
    rw [star_plain h1]
    show (true && (backTo pos (starEach es env)).all (fun x => !x.1)) = true
    rw [stars_few h2]
    rfl
abbrev plOf (o : Expr) (env : Env) : Sem Bool := do return (← importBound o env).getD true
theorem meth_eq {m : Str} {env : Env} (hb : base0 o = true) (hs : noStars es = true) (hn : es.length < 30) (hline : (apos.endLine == pos.line) = true) :
    eval (.Call (.Attribute o m apos) es [] pos) env = (do
      let ov ← eval o env
      standAt apos.atName
      let (f, first) ← holding [ov] (getMethod ov m (plOf o env))
      callWith pos f first (backTo pos (starEach es env)) (backToKw pos (keywordEach [] env))) := by
  have few : methodCallForm (es.length + ([] : List Keyword).length) (backTo pos (starEach es env)) (backToKw pos (keywordEach [] env)) = true := by
    unfold methodCallForm
    rw [stars_few hs]
    show (true && true && decide (es.length + 0 + 0 < 30)) = true
    simp only [Bool.and_self, Bool.true_and, Nat.add_zero, decide_eq_true_eq]
    exact hn
  rw [arm_eval_Call, base_eq hb]
  unfold methodCall
  rw [few]
  unfold calleeOf methodCallPos
  simp only [Bool.not_true, Bool.false_or, hline, if_true, ite_true]
  rfl
/-- how a class's method stands -/
def MtH (prog : Program) (w : World) (K : PySem.W.Frag) (mg : Str → Option Value) (base : Heap) (cl : CL) (P : Pg) (hc : Hc) (k : Nat) (m : Str) : Prop :=
  ∀ c q f, P.cl c = some q → q.meths.lookup m = some f → plainCl P c = true ∧ ∃ fn fa, P.fns[f]? = some fn ∧ FnH prog w K mg base cl hc k f fn.ps fa ∧ Meth K (cl c) m fa
theorem meth_case {R : RC} {σ : St} {τ : List (Option D)} {m : Str} (A : At X.K cl R σ τ) (H : MtH X.prog X.w X.K X.mg X.base cl P hc k m) {v : V} {d : D} (r : Rep R v d) (h : methD P R.S d m = some f) :
    ∃ c p dx fs fn fa, v = .ref p ∧ R.H p = some (.ins (cl c) dx fs) ∧ fs.lookup m = none ∧ plainCl P c = true ∧ P.fns[f]? = some fn ∧ FnH X.prog X.w X.K X.mg X.base cl hc k f fn.ps fa ∧ Meth X.K (cl c) m fa := by
  unfold methD at h
  split at h
  · rename_i c ns xs hd
    obtain ⟨p, dx, fs, ev, hp, en, rr⟩ := de_obj A.cells r hd
    cases q : P.cl c with
    | none => rw [q] at h; cases h
    | some k' =>
      rw [q] at h
      simp only [Option.bind_some] at h
      split at h
      · cases h
      · rename_i hn
        obtain ⟨hc', fn, fa, h1, h2, h3⟩ := H c k' f q h
        rw [A.cl] at hp
        exact ⟨c, p, dx, fs, fn, fa, ev, hp, lookup_none (by rw [en]; exact hn), hc', h1, h2, h3⟩
  · cases h
theorem se_meth {md : Nat} {m : Str} (kit : Kit X.K cl P) (HM : MtH X.prog X.w X.K X.mg X.base cl P hc k m) (hr : Room k X.A) (tk : Takes X W) (hb : base0 o = true) (hs : noStars (e :: es) = true) (hn : (e :: es).length < 30) (hline : (apos.endLine == pos.line) = true)
    (ho : SE X cl W o mo) (ha : SA X cl W (e :: es) ml) :
    SE X cl W (.Call (.Attribute o m apos) (e :: es) [] pos) (M.bind mo fun d => M.bind (opS (fun S _ => methD P S d m) ()) fun f => M.bind ml fun ds => callP P hc f (d :: ds) md) := by
  obtain ⟨hs1, hs2⟩ := Bool.and_eq_true_iff.mp (show (notStar e && noStars es) = true from hs)
  refine ⟨fun pins s σ H Q I h => ?_⟩
  obtain ⟨R, τ, hH, A, h⟩ := h
  refine PySem.W.methodCall_KW (pl := plOf o X.env) (thn (ho.run pins s σ H _ I ⟨R, τ, hH, A, rdAt_bind (rel := relD) h⟩) fun u s1 ⟨x, H1, I1, rx, R1, τ1, d, e1, x1, A1, r1, h1⟩ => ?_) (meth_eq hb hs hn hline)
  subst e1
  obtain ⟨f, hf, h2⟩ := rdAt_opS h1
  obtain ⟨c, p, dx, fs, fn, fa, ev, hp, hl, hpc, hfn, ⟨fd, F, hk, hbd, _⟩, hm⟩ := meth_case A1 HM r1 hf
  subst ev
  obtain rfl : u = Value.ref p := rx
  refine getmeth_ok I1 hp (kit.cls c hpc) hm hl ?_
  refine PySem.W.callWith_K (first := [.ref p]) (h₀ := X.base) I.ok.mod.kin hm.kp (thn (ha.run pos pins s1 σ R1.H _ I1 ⟨R1, τ1, rfl, A1, rdAt_bind (rel := relL) h2⟩) fun us s2 ⟨vs, H2, I2, r, R2, τ2, ds, e2, x2, A2, r2, h3⟩ => ⟨I2.kIn, ?_⟩) (star_plain hs1 _) (stars_plain hs2 _ _)
  subst e2
  obtain ⟨hl2, h4⟩ := callP_at hfn h3
  have rr : RepL R2 (.ref p :: vs) (d :: ds) := RepL.cons (Rep.ext x2 r1) r2
  exact run_fnSD (us := .ref p :: us) (vs := .ref p :: vs) (dvs := []) (ds := []) (E := WE W) F hr hbd .nil (passAt tk σ) I2 (.cons rfl r) (by rw [List.append_nil]; exact sp_of_call A2 rr hl2 h4)
theorem se_meth0 {md : Nat} {m : Str} (kit : Kit X.K cl P) (HM : MtH X.prog X.w X.K X.mg X.base cl P hc k m) (hr : Room k X.A) (tk : Takes X W) (hb : base0 o = true) (hline : (apos.endLine == pos.line) = true) (ho : SE X cl W o mo) :
    SE X cl W (.Call (.Attribute o m apos) [] [] pos) (M.bind mo fun d => M.bind (opS (fun S _ => methD P S d m) ()) fun f => M.bind (M.pure []) fun ds => callP P hc f (d :: ds) md) := by
  refine ⟨fun pins s σ H Q I h => ?_⟩
  obtain ⟨R, τ, hH, A, h⟩ := h
  refine PySem.W.methodCall_KW (pl := plOf o X.env) (thn (ho.run pins s σ H _ I ⟨R, τ, hH, A, rdAt_bind (rel := relD) h⟩) fun u s1 ⟨x, H1, I1, rx, R1, τ1, d, e1, x1, A1, r1, h1⟩ => ?_) (meth_eq hb rfl (by decide) hline)
  subst e1
  obtain ⟨f, hf, h2⟩ := rdAt_opS h1
  obtain ⟨c, p, dx, fs, fn, fa, ev, hp, hl, hpc, hfn, ⟨fd, F, hk, hbd, _⟩, hm⟩ := meth_case A1 HM r1 hf
  subst ev
  obtain rfl : u = Value.ref p := rx
  refine getmeth_ok I1 hp (kit.cls c hpc) hm hl ?_
  obtain ⟨hl2, h4⟩ := callP_at (ds := [d]) hfn h2
  have rr : RepL R1 [.ref p] [d] := RepL.cons r1 RepL.nil
  exact PySem.W.callWith_K0 (first := [.ref p]) I1.kIn hm.kp (run_fnSD (us := [.ref p]) (vs := [.ref p]) (dvs := []) (ds := []) (E := WE W) F hr hbd .nil (passAt tk σ) I1 (.cons rfl .nil) (sp_of_call A1 rr hl2 h4))
end
end Gc

end

section
set_option Elab.async false
set_option linter.all false
set_option maxRecDepth 100000
set_option maxHeartbeats 1000000
/-! the interpreter is sound: new objects, methods of lists -/
namespace Gc
open PySem PySem.Spec L2
section
variable {X : Cx} {cl : CL} {W : WX} {a b e o : Expr} {pos p2 p apos : Pos} {ma mb mc mo : M D} {rest es : List Expr} {ml : M (List D)} {x : Str} {P : Pg} {hc : Hc} {k np c : Nat} {fa : Addr}

theorem run_makeSD {CX : CXT} {C f : Addr} {fd : FuncData} {ps : List Str} {sp : Sp} {E : XK} {pins : List (Addr × Obj)} {σ : St} {H : Hp} {s : Shared} {Q : VK} {us : List Value} {vs : List V} (M : Mk X.K C f) (F : FnOk X.prog X.w X.K X.mg X.base CX k f fd ps sp) (hr : Room (k + 1) X.A) (hb : Binds X.K fd ps [])
    (hx : PassesAt CX X σ E) (I : Inv X pins σ H s) (r : Vals vs us)
    (h : ∀ x dx, H x = none → H dx = none → dx ≠ x → sp (.ref x :: vs) (upd (upd H dx (.own x)) x (.ins C dx [])) (fun v H2 => v = .non ∧ Q (.ref x) H2) E) :
    wpAny (model X.prog X.w) X.A (call (.ref C) us) (EP X pins σ Q) X.xe s := by
  have hq := h (s.heap.objs.size + 1) s.heap.objs.size (I.hok.fresh (Nat.le_succ _)) (I.hok.fresh (Nat.le_refl _)) (Nat.ne_of_lt (Nat.lt_succ_self _))
  have I2 := Inv.made (C := C) I
  have r2 : Vals (V.ref (s.heap.objs.size + 1) :: vs) (Value.ref (s.heap.objs.size + 1) :: us) := .cons rfl r
  have hl : (Value.ref (s.heap.objs.size + 1) :: us ++ []).length = ps.length := by
    have e := r2.length
    rw [F.len _ _ _ _ hq] at e
    rw [List.append_nil]
    exact e.symm
  have hbb := hb { s with heap := (s.heap.push PySem.W.emptyDict).push (PySem.W.instObj C s.heap.objs.size) } (Value.ref (s.heap.objs.size + 1) :: us) I2.kIn hl
  rw [List.append_nil] at hbb
  refine wpAny_call (make_map (f := f) I.kIn M.makes M.init (beq_iff_eq.mp M.fn) (codeAny_mono (F.run _ X.stack _ _ ⟨Value.ref (s.heap.objs.size + 1) :: us, []⟩ (Value.ref (s.heap.objs.size + 1) :: us) _ _ E (hr.make C us [])
    (I2.env0.make C us []) hbb r2 hq) fun r s' hq' => ?_))
  cases r with
  | error e => exact hx pins _ _ e s' I2 hq'
  | ok fl =>
    cases fl with
    | ret u =>
      obtain ⟨v, H', I3, rv, ev, q3⟩ := I2.after hq'
      subst ev
      exact ⟨rv, ⟨V.ref (s.heap.objs.size + 1), H', I3, rfl, q3⟩⟩
    | next => exact False.elim hq'
    | brk => exact False.elim hq'
    | cont => exact False.elim hq'
/-- the cell of an object that is made -/
theorem Cells.made {R : RC} (C : Cells R) {x dx : Addr} (hx : R.H x = none) (hdx : R.H dx = none) (ne : dx ≠ x) {c : Nat} :
    Ext R ((R.upd dx (.own x)).cellNew x (.ins (R.cl c) dx []) (.obj c [] [])) ∧ Cells ((R.upd dx (.own x)).cellNew x (.ins (R.cl c) dx []) (.obj c [] [])) := by
  have x1 := Ext.new (R := R) (o := .own x) hdx
  have C1 := C.new (o := .own x) hdx
  have hx1 : (R.upd dx (.own x)).H x = none := by
    show upd R.H dx (.own x) x = none
    rw [upd_ne (Ne.symm ne)]
    exact hx
  exact ⟨x1.trans (Ext.cellNew hx1), C1.cellNew hx1 ⟨dx, [], rfl, rfl, RepL.nil⟩⟩
theorem make_sp {R : RC} {σ : St} {τ : List (Option D)} {md : Nat} {Q : VK} {vs : List V} {ds : List D} {q : Cl} {fn : Fn} (hq : P.cl c = some q) (hfn : P.fns[q.init]? = some fn) (A : At X.K cl R σ τ) (r : RepL R vs ds)
    (h : rdAt relD X.K cl W R τ (makeM P hc c ds md) σ Q) (xa dx : Addr) (hx : R.H xa = none) (hdx : R.H dx = none) (ne : dx ≠ xa) :
    spF X.K cl hc q.init fn.np (.ref xa :: vs) (upd (upd R.H dx (.own xa)) xa (.ins (cl c) dx [])) (fun v H2 => v = .non ∧ Q (.ref xa) H2) (WE W σ) := by
  obtain ⟨x1, C1⟩ := A.cells.made (c := c) hx hdx ne
  unfold rdAt makeM at h
  rw [hq] at h
  dsimp only at h
  by_cases hcond : (q.exc.isSome || !((P.fns[q.init]?).map (·.np) == some (ds.length + 1))) = true
  · rw [if_pos hcond] at h
    exact h.elim
  · rw [if_neg hcond] at h
    have hnp : fn.np = ds.length + 1 := by
      rw [hfn] at hcond
      simp at hcond
      exact hcond.2
    refine ⟨by rw [List.length_cons, r.length]; exact hnp.symm, (R.upd dx (.own xa)).cellNew xa (.ins (R.cl c) dx []) (.obj c [] []), .ref R.S.length :: ds, 0, by rw [A.cl]; rfl, A.K, A.cl, C1, RepL.cons Rep.cellNew (RepL.ext x1 r), ?_⟩
    have eS : ((R.upd dx (.own xa)).cellNew xa (.ins (R.cl c) dx []) (.obj c [] [])).S = R.S ++ [some (.obj c [] [])] := rfl
    rw [eS]
    have hlt : R.S.length < ((R.upd dx (.own xa)).cellNew xa (.ins (R.cl c) dx []) (.obj c [] [])).S.length := by
      rw [eS, List.length_append]
      show R.S.length < R.S.length + 1
      omega
    have rho1 : ((R.upd dx (.own xa)).cellNew xa (.ins (R.cl c) dx []) (.obj c [] [])).ρ R.S.length = xa := by
      show (if R.S.length = R.S.length then xa else R.ρ _) = xa
      rw [if_pos rfl]
    cases q2 : hc q.init (.ref R.S.length :: ds) 0 (R.S ++ [some (.obj c [] [])]) with
    | bad => rw [q2] at h; exact h
    | exn c' ns xs S =>
      rw [q2] at h
      dsimp only at h ⊢
      exact fun R' cls dd x2 e2 C2 r2 => h R' cls dd (x1.trans x2) e2 ⟨(x1.trans x2).K.trans A.K, (x1.trans x2).cl.trans A.cl, C2, A.slots.ext (x1.trans x2)⟩ r2
    | ok d S =>
      rw [q2] at h
      cases d with
      | non =>
        dsimp only at h ⊢
        intro v R' x2 e2 C2 r2
        refine ⟨by unfold Rep at r2; exact r2, ?_⟩
        have rho2 : R'.ρ R.S.length = xa := (x2.rho _ hlt).trans rho1
        have x3 := x1.trans x2
        cases q3 : S[R.S.length]? with
        | none => rw [q3] at h; exact h.elim
        | some o =>
          cases o with
          | none => rw [q3] at h; exact h.elim
          | some e =>
            rw [q3] at h
            dsimp only at h
            have q4 : R'.S[R.S.length]? = some (some e) := by rw [e2]; exact q3
            by_cases hm : md = 0
            · rw [if_pos hm] at h
              dsimp only at h
              have r5 : Rep (R'.cellEnd R.S.length) (.ref xa) e := by rw [← rho2]; exact Rep.cellEnd C2 q4
              exact h (.ref xa) (R'.cellEnd R.S.length) (x3.trans (Ext.cellEnd q4)) (by show R'.S.set _ none = _; rw [e2]) ⟨x3.K.trans A.K, x3.cl.trans A.cl, C2.cellEnd q4, A.slots.ext (x3.trans (Ext.cellEnd q4))⟩ r5
            · rw [if_neg hm] at h
              dsimp only at h
              exact h (.ref xa) R' x3 e2 ⟨x3.K.trans A.K, x3.cl.trans A.cl, C2, A.slots.ext x3⟩ (by
                show Rep R' (.ref xa) (.ref R.S.length)
                unfold Rep
                refine ⟨by rw [rho2], ?_⟩
                exact (List.getElem?_eq_some_iff.mp q4).1)
      | _ => exact h.elim
/-- how a class is made -/
def MkH (prog : Program) (w : World) (K : PySem.W.Frag) (mg : Str → Option Value) (base : Heap) (cl : CL) (P : Pg) (hc : Hc) (k c : Nat) : Prop :=
  ∃ q fn fa, P.cl c = some q ∧ P.fns[q.init]? = some fn ∧ FnH prog w K mg base cl hc k q.init fn.ps fa ∧ Mk K (cl c) fa
theorem se_make {md : Nat} (HM : MkH X.prog X.w X.K X.mg X.base cl P hc k c) (hr : Room (k + 1) X.A) (tk : Takes X W) (hg : Gl X x) (hm : X.mg x = some (.ref (cl c))) (hdb : (x == ("__debug__" : Str)) = false)
    (hs : noStars (e :: es) = true) (ha : SA X cl W (e :: es) ml) : SE X cl W (.Call (.Name x p) (e :: es) [] pos) (M.bind ml fun ds => makeM P hc c ds md) := by
  obtain ⟨q, fn, fa, hq, hfn, ⟨fd, F, hk, hb, _⟩, M⟩ := HM
  obtain ⟨h1, h2⟩ := Bool.and_eq_true_iff.mp (show (notStar e && noStars es) = true from hs)
  refine ⟨fun pins s σ H Q I h => ?_⟩
  obtain ⟨R, τ, hH, A, h⟩ := h
  refine wpAny_Call_Name_kw (ld_glob I hg hm ?_ hdb)
  refine PySem.W.callWith_K (h₀ := X.base) I.ok.mod.kin M.kp (thn (ha.run pos pins s σ H _ I ⟨R, τ, hH, A, rdAt_bind (rel := relL) h⟩) fun us s1 ⟨vs, H1, I1, r, R1, τ1, ds, e1, x1, A1, r1, h1⟩ => ⟨I1.kIn, ?_⟩) (star_plain h1 _) (stars_plain h2 _ _)
  subst e1
  exact run_makeSD M F hr hb (passAt tk σ) I1 r fun xa dx => make_sp hq hfn A1 r1 h1 xa dx
theorem se_make0 {md : Nat} (HM : MkH X.prog X.w X.K X.mg X.base cl P hc k c) (hr : Room (k + 1) X.A) (tk : Takes X W) (hg : Gl X x) (hm : X.mg x = some (.ref (cl c))) (hdb : (x == ("__debug__" : Str)) = false) :
    SE X cl W (.Call (.Name x p) [] [] pos) (M.bind (M.pure []) fun ds => makeM P hc c ds md) := by
  obtain ⟨q, fn, fa, hq, hfn, ⟨fd, F, hk, hb, _⟩, M⟩ := HM
  refine ⟨fun pins s σ H Q I h => ?_⟩
  obtain ⟨R, τ, hH, A, h⟩ := h
  subst hH
  refine wpAny_Call_Name_kw (ld_glob I hg hm ?_ hdb)
  exact PySem.W.callWith_K0 I.kIn M.kp (run_makeSD (us := []) (vs := []) M F hr hb (passAt tk σ) I .nil fun xa dx => make_sp (ds := []) hq hfn A RepL.nil h xa dx)

/-! ### methods of lists -/
theorem MtR.imp {id : String} {r r' : V → List V → Hp → VK → Prop} (h : MtR X id r) (w : ∀ x xs H Q, r' x xs H Q → r x xs H Q) : MtR X id r' := fun pins s σ H x xs v us Q I rx rs hh => h pins s σ H x xs v us Q I rx rs (w x xs H Q hh)
theorem cell_case {R : RC} (C : Cells R) {v : V} {d : D} {n : Nat} {e : D} (r : Rep R v d) (h : cellOf R.S d = some (n, e)) : d = .ref n ∧ v = .ref (R.ρ n) ∧ R.S[n]? = some (some e) ∧ ∃ o, R.H (R.ρ n) = some o ∧ RepH R o e := by
  unfold cellOf at h
  split at h
  · rename_i m
    cases q : R.S[m]?.join with
    | none => rw [q] at h; cases h
    | some e' =>
      rw [q] at h
      cases h
      have q2 : R.S[n]? = some (some e) := by
        cases z : R.S[n]? with
        | none => rw [z] at q; cases q
        | some y => rw [z] at q; rw [show y = some e from q]
      unfold Rep at r
      exact ⟨rfl, r.1, q2, C.cell n e q2⟩
  · cases h
theorem rdAt_cellSet {R : RC} {σ : St} {τ : List (Option D)} {md n : Nat} {o : HO} {d e z : D} {v : V} {Q : VK} (A : At X.K cl R σ τ) (h1 : R.S[n]? = some (some e)) (r : RepH R o d) (rz : Rep (R.cellSet n o d) v z)
    (h : rdAt relD X.K cl W R τ (fun s => fin md (.v z) ⟨s.τ, R.S.set n (some d)⟩) σ Q) : Q v (upd R.H (R.ρ n) o) := by
  have x1 := Ext.cellSet (o := o) (d := d) h1
  exact h v (R.cellSet n o d) x1 rfl ⟨A.K, A.cl, A.cells.cellSet h1 r, A.slots.ext x1⟩ rz
def rBm (K : PySem.W.Frag) (cl : CL) (W : WX) (m : Bm) (md : Nat) : V → List V → Hp → VK → Prop := fun x vs H Q => ∃ σ R τ d ds, R.H = H ∧ At K cl R σ τ ∧ Rep R x d ∧ RepL R vs ds ∧ rdAt relD K cl W R τ (bmM m d ds md) σ Q
theorem bm_at {R : RC} {σ : St} {τ : List (Option D)} {md : Nat} {m : Bm} {d : D} {ds : List D} {Q : VK} (h : rdAt relD X.K cl W R τ (bmM m d ds md) σ Q) : ∃ ov S, bmD R.S m d ds = some (ov, S) ∧ rdAt relD X.K cl W R τ (fun s => fin md ov ⟨s.τ, S⟩) σ Q := by
  unfold rdAt bmM at h
  dsimp only at h
  cases q : bmD R.S m d ds with
  | none => rw [q] at h; exact h.elim
  | some p =>
    rw [q] at h
    exact ⟨p.1, p.2, rfl, h⟩
/-- the cell of a list -/
theorem listcell {R : RC} (C : Cells R) {v : V} {d : D} {n : Nat} {xs : List D} (r : Rep R v d) (h : cellL R.S d = some (n, xs)) : ∃ vs, v = .ref (R.ρ n) ∧ R.S[n]? = some (some (.lst xs)) ∧ R.H (R.ρ n) = some (.lst vs) ∧ RepL R vs xs := by
  unfold cellL at h
  cases q : cellOf R.S d with
  | none => rw [q] at h; cases h
  | some p =>
    rw [q] at h
    obtain ⟨m, e⟩ := p
    obtain ⟨_, h1, h2, o, h3, h4⟩ := cell_case C r q
    cases e with
    | lst ys =>
      cases h
      obtain ⟨vs, eo, rr⟩ := h4
      subst eo
      exact ⟨vs, h1, h2, h3, rr⟩
    | _ => cases h
theorem bind_inv {α β : Type} {o : Option α} {f : α → Option β} {z : β} (h : o.bind f = some z) : ∃ a, o = some a ∧ f a = some z := by
  cases o with
  | none => cases h
  | some a => exact ⟨a, rfl, h⟩
theorem one1_inv {ds : List D} {d : D} (h : one1 ds = some d) : ds = [d] := by
  unfold one1 at h
  split at h
  · cases h; rfl
  · cases h
theorem none0_inv {ds : List D} {u : Unit} (h : none0 ds = some u) : ds = [] := by
  unfold none0 at h
  split at h
  · rfl
  · cases h
theorem mtr_append {md : Nat} : MtR X "list.append" (rBm X.K cl W .append md) := by
  refine MtR.imp mt_append fun x vs H Q ⟨σ, R, τ, d, ds, hH, A, r1, r2, h⟩ => ?_
  subst hH
  obtain ⟨ov, S, hb, h⟩ := bm_at h
  obtain ⟨y, hy, hb⟩ := bind_inv hb
  have ed := one1_inv hy
  subst ed
  obtain ⟨w, ev, rw'⟩ := repL1 r2
  obtain ⟨⟨n, xs⟩, hc', hb⟩ := bind_inv hb
  obtain ⟨ws, e1, h1, hp, rp⟩ := listcell A.cells r1 hc'
  dsimp only at hb
  split at hb
  · rename_i hl
    cases hb
    have rr : RepH R (.lst (ws ++ [w])) (.lst (xs ++ [y])) := ⟨_, rfl, rp.append (RepL.cons rw' RepL.nil)⟩
    exact ⟨_, ws, w, e1, ev, hp, by rw [rp.length]; exact hl, rdAt_cellSet A h1 rr rep_non h⟩
  · cases hb
theorem RepL.dropLast {R : RC} {vs : List V} {xs : List D} (r : RepL R vs xs) : RepL R vs.dropLast xs.dropLast := by
  rw [List.dropLast_eq_take, List.dropLast_eq_take, r.length]
  exact r.take _
theorem mtr_pop {md : Nat} : MtR X "list.pop" (rBm X.K cl W .pop md) := by
  refine MtR.imp mt_pop fun x vs H Q ⟨σ, R, τ, d, ds, hH, A, r1, r2, h⟩ => ?_
  subst hH
  obtain ⟨ov, S, hb, h⟩ := bm_at h
  obtain ⟨y, hy, hb⟩ := bind_inv hb
  have ed := none0_inv hy
  subst ed
  unfold RepL at r2
  obtain ⟨⟨n, xs⟩, hc', hb⟩ := bind_inv hb
  obtain ⟨ws, e1, h1, hp, rp⟩ := listcell A.cells r1 hc'
  obtain ⟨y, hy, ez⟩ := map_inv hb
  cases ez
  obtain ⟨w, hw, rw'⟩ := rp.get hy
  have rr : RepH R (.lst ws.dropLast) (.lst xs.dropLast) := ⟨_, rfl, rp.dropLast⟩
  exact ⟨_, ws, w, e1, r2, hp, by rw [rp.length]; exact hw, rdAt_cellSet A h1 rr (Rep.ext (Ext.cellSet h1) rw') h⟩
theorem mtr_popAt {md : Nat} : MtR X "list.pop" (rBm X.K cl W .popAt md) := by
  refine MtR.imp mt_popAt fun x vs H Q ⟨σ, R, τ, d, ds, hH, A, r1, r2, h⟩ => ?_
  subst hH
  obtain ⟨ov, S, hb, h⟩ := bm_at h
  obtain ⟨y, hy, hb⟩ := bind_inv hb
  have ed := one1_inv hy
  subst ed
  obtain ⟨w0, ev, r0⟩ := repL1 r2
  obtain ⟨i, hi, hb⟩ := bind_inv hb
  have ei : y = .int i := by cases y <;> first | (cases hi; rfl) | cases hi
  subst ei
  obtain ⟨⟨n, xs⟩, hc', hb⟩ := bind_inv hb
  obtain ⟨ws, e1, h1, hp, rp⟩ := listcell A.cells r1 hc'
  dsimp only at hb
  split at hb
  · rename_i hl
    obtain ⟨k', hk, hb⟩ := bind_inv hb
    obtain ⟨y, hy, ez⟩ := map_inv hb
    cases ez
    obtain ⟨w, hw, rw'⟩ := rp.get hy
    have rr : RepH R (.lst (ws.eraseIdx k')) (.lst (xs.eraseIdx k')) := ⟨_, rfl, rp.eraseIdx k'⟩
    exact ⟨_, ws, i, k', w, e1, by rw [ev, de_int r0], hp, hl.1, hl.2, by rw [rp.length]; exact hk, hw, rdAt_cellSet A h1 rr (Rep.ext (Ext.cellSet h1) rw') h⟩
  · cases hb
theorem mtr_clear {md : Nat} : MtR X "list.clear" (rBm X.K cl W .clear md) := by
  refine MtR.imp mt_clear fun x vs H Q ⟨σ, R, τ, d, ds, hH, A, r1, r2, h⟩ => ?_
  subst hH
  obtain ⟨ov, S, hb, h⟩ := bm_at h
  obtain ⟨y, hy, hb⟩ := bind_inv hb
  have ed := none0_inv hy
  subst ed
  unfold RepL at r2
  obtain ⟨⟨n, xs⟩, hc', hb⟩ := bind_inv hb
  obtain ⟨ws, e1, h1, hp, rp⟩ := listcell A.cells r1 hc'
  cases hb
  have rr : RepH R (.lst []) (.lst []) := ⟨_, rfl, RepL.nil⟩
  exact ⟨_, ws, e1, r2, hp, rdAt_cellSet A h1 rr rep_non h⟩
abbrev bmMM (m : Bm) (md : Nat) (mo : M D) (ml : M (List D)) : M D := M.bind mo fun d => M.bind (opS (fun S _ => lstOk S d) ()) fun _ => M.bind ml fun ds => bmM m d ds md
theorem lstOk_case {R : RC} (C : Cells R) {v : V} {d : D} {u : Unit} (r : Rep R v d) (h : lstOk R.S d = some u) : tyV X.K "list" v R.H := by
  unfold lstOk at h
  split at h
  · rename_i xs hd
    obtain ⟨p, vs, ev, hp, rp⟩ := de_lst C r hd
    subst ev
    exact .inl ⟨rfl, vs, SqL.of hp⟩
  · cases h
theorem se_bm {m : Bm} {md : Nat} {name : Str} {id : String} (slot : Slot "list" name id) (hty : typeOf (.builtin id) = pure (.type "method_descriptor")) (hm : MtR X id (rBm X.K cl W m md)) (hb : base0 o = true) (hs : noStars (e :: es) = true) (hn : (e :: es).length < 30) (hline : (apos.endLine == pos.line) = true)
    (ho : SE X cl W o mo) (ha : SA X cl W (e :: es) ml) : SE X cl W (.Call (.Attribute o name apos) (e :: es) [] pos) (bmMM m md mo ml) := by
  obtain ⟨h1, h2⟩ := Bool.and_eq_true_iff.mp (show (notStar e && noStars es) = true from hs)
  have few : ((backTo pos (starEach (e :: es) X.env)).all (fun x => !x.1) && (backToKw pos (keywordEach [] X.env)).all (fun x => x.1.isSome)
      && decide ((e :: es).length + ([] : List Keyword).length + (if ([] : List Keyword).isEmpty then 0 else 1) < 30)) = true := by
    rw [stars_few hs]
    show (true && true && decide ((e :: es).length + 0 + 0 < 30)) = true
    simp only [Bool.and_self, Bool.true_and, Nat.add_zero, decide_eq_true_eq]
    exact hn
  refine PE.weak (pe_bm PySem.F.plainAttrs_list slot hty hm ho ha (base_eq hb _ _) few hline (star_plain h1 _) (stars_plain h2 _ _)) fun σ H Q h => ?_
  obtain ⟨R, τ, hH, A, h⟩ := h
  refine ⟨R, τ, hH, A, rdAt_mono (rdAt_bind (rel := relD) h) fun x H1 ⟨R1, τ1, d, e1, x1, A1, r1, h1⟩ => ?_⟩
  subst e1
  obtain ⟨u, hu, h2⟩ := rdAt_opS h1
  refine ⟨lstOk_case A1.cells r1 hu, R1, τ1, rfl, A1, rdAt_mono (rdAt_bind (rel := relL) h2) fun vs H2 ⟨R2, τ2, ds, e2, x2, A2, r2, h3⟩ => ?_⟩
  exact ⟨σ, R2, τ2, d, ds, e2, A2, Rep.ext x2 r1, r2, h3⟩
theorem se_bm0 {m : Bm} {md : Nat} {name : Str} {id : String} (slot : Slot "list" name id) (hty : typeOf (.builtin id) = pure (.type "method_descriptor")) (hm : MtR X id (rBm X.K cl W m md)) (hb : base0 o = true) (hline : (apos.endLine == pos.line) = true)
    (ho : SE X cl W o mo) : SE X cl W (.Call (.Attribute o name apos) [] [] pos) (bmMM m md mo (M.pure [])) := by
  refine PE.weak (pe_bm0 PySem.F.plainAttrs_list slot hty hm ho (base_eq hb _ _) hline) fun σ H Q h => ?_
  obtain ⟨R, τ, hH, A, h⟩ := h
  refine ⟨R, τ, hH, A, rdAt_mono (rdAt_bind (rel := relD) h) fun x H1 ⟨R1, τ1, d, e1, x1, A1, r1, h1⟩ => ?_⟩
  subst e1
  obtain ⟨u, hu, h2⟩ := rdAt_opS h1
  exact ⟨lstOk_case A1.cells r1 hu, σ, R1, τ1, d, [], rfl, A1, r1, RepL.nil, h2⟩
end
end Gc

end

section
set_option Elab.async false
set_option linter.all false
set_option maxRecDepth 100000
set_option maxHeartbeats 1000000
/-! the interpreter is sound: calls with keywords -/
namespace Gc
open PySem PySem.Spec L2
abbrev SK (X : Cx) (cl : CL) (W : WX) (kws : List Keyword) (m : M (List D)) : Prop := PK X kws (rd relL X.K cl W m)
theorem PK.weak {X : Cx} {e : List Keyword} {t t' : TA} (h : PK X e t) (w : ∀ σ H Q, t' σ H Q → t σ H Q) : PK X e t' := ⟨fun pos pins s σ H Q I hh => h.run pos pins s σ H Q I (w σ H Q hh)⟩
section
variable {X : Cx} {cl : CL} {W : WX} {a b e o : Expr} {pos p2 p apos kpos : Pos} {ma mb mc mo : M D} {rest es : List Expr} {ml mk : M (List D)} {x : Str} {P : Pg} {hc : Hc} {k np c f : Nat} {fa : Addr} {kws : List Keyword} {nm : Option Str}
theorem sk_nil : SK X cl W [] (M.pure []) := PK.weak pk_nil fun σ H Q ⟨R, τ, hH, A, h⟩ => by subst hH; exact rdAt_pure h A RepL.nil
theorem sk_cons (ha : SE X cl W a ma) (hr : SK X cl W kws mk) : SK X cl W (⟨nm, a, kpos⟩ :: kws) (M.bind ma fun d => M.bind mk fun ds => M.pure (d :: ds)) := by
  refine PK.weak (pk_cons ha hr) fun σ H Q h => ?_
  obtain ⟨R, τ, hH, A, h⟩ := h
  refine ⟨R, τ, hH, A, rdAt_mono (rdAt_bind (rel := relD) h) fun x H1 ⟨R1, τ1, d, e1, x1, A1, r1, h1⟩ => ?_⟩
  refine ⟨R1, τ1, e1, A1, rdAt_mono (rdAt_bind (rel := relL) h1) fun y H2 ⟨R2, τ2, e, e2, x2, A2, r2, h2⟩ => ?_⟩
  subst e2
  exact rdAt_pure h2 A2 (RepL.cons (Rep.ext x2 r1) r2)
/-- the names of keywords -/
def kwNames (kws : List Keyword) : List (Option Str) := kws.map (·.arg)
theorem kw_each {kws : List Keyword} {env : Env} {pos : Pos} : (backToKw pos (keywordEach kws env)).map (·.1) = kws.map (·.arg) := by
  induction kws with
  | nil => rfl
  | cons a kws ih =>
    obtain ⟨n, e, p⟩ := a
    show n :: (backToKw pos (keywordEach kws env)).map (·.1) = n :: kws.map (·.arg)
    rw [ih]
theorem kw_all {kws : List Keyword} {ks : List Str} {env : Env} {pos : Pos} (h : kws.map (·.arg) = ks.map some) : (backToKw pos (keywordEach kws env)).all (·.1.isSome) = true ∧ (backToKw pos (keywordEach kws env)).filterMap (·.1) = ks ∧ (backToKw pos (keywordEach kws env)).any (·.1.isNone) = false := by
  have e := (kw_each (kws := kws) (env := env) (pos := pos)).trans h
  generalize backToKw pos (keywordEach kws env) = l at e
  induction l generalizing ks with
  | nil =>
    cases ks with
    | nil => exact ⟨rfl, rfl, rfl⟩
    | cons _ _ => cases e
  | cons y l ih =>
    cases ks with
    | nil => cases e
    | cons z ks =>
      obtain ⟨y1, y2⟩ := y
      simp only [List.map_cons, List.cons.injEq] at e
      obtain ⟨e1, e2⟩ := e
      subst e1
      have key : ∀ {ks : List Str}, l.map (·.1) = ks.map some → l.all (·.1.isSome) = true ∧ l.filterMap (·.1) = ks ∧ l.any (·.1.isNone) = false := fun {ks} e => by
        clear ih e2 h
        induction l generalizing ks with
        | nil =>
          cases ks with
          | nil => exact ⟨rfl, rfl, rfl⟩
          | cons _ _ => cases e
        | cons y l ih =>
          cases ks with
          | nil => cases e
          | cons z ks =>
            obtain ⟨y1, y2⟩ := y
            simp only [List.map_cons, List.cons.injEq] at e
            obtain ⟨e1, e2⟩ := e
            subst e1
            obtain ⟨a, b, c⟩ := ih e2
            exact ⟨by rw [List.all_cons, a]; rfl, by rw [List.filterMap_cons, b], by rw [List.any_cons, c]; rfl⟩
      obtain ⟨a, b, c⟩ := key e2
      exact ⟨by rw [List.all_cons, a]; rfl, by rw [List.filterMap_cons, b], by rw [List.any_cons, c]; rfl⟩
theorem run_fnKD {CX : CXT} {fd : FuncData} {ps : List Str} {sp : Sp} {E : St → XK} {pins : List (Addr × Obj)} {σ : St} {H : Hp} {s : Shared} {Q : VK} {us ws : List Value} {vs zs : List V} {ks : List Str} (F : FnOk X.prog X.w X.K X.mg X.base CX k fa fd ps sp) (hr : Room k X.A) (hb : KBinds X.K fd ps) (hx : PassesAt CX X σ (E σ))
    (I : Inv X pins σ H s) (r : Vals vs us) (rz : Vals zs ws) (hks : ks = ps.drop us.length) (h : sp (vs ++ zs) H Q (E σ)) : wpAny (model X.prog X.w) X.A (call (.ref fa) us (ks.zip ws)) (EP X pins σ Q) X.xe s := by
  have r2 : Vals (vs ++ zs) (us ++ ws) := r.append rz
  have hl : (us ++ ws).length = ps.length := by rw [← r2.length]; exact F.len _ _ _ _ h
  subst hks
  refine wpAny_call (codeAny_mono (F.run X.A X.stack s H ⟨us, (ps.drop us.length).zip ws⟩ (us ++ ws) (vs ++ zs) Q (E σ) hr I.env0 (hb s us ws I.kIn (by rw [← hl, List.length_append])) r2 h) fun r s' hq => ?_)
  cases r with
  | error e => exact hx pins H s e s' I hq
  | ok fl =>
    cases fl with
    | ret u => exact I.after hq
    | next => exact False.elim hq
    | brk => exact False.elim hq
    | cont => exact False.elim hq
theorem no_stars : ∀ {es : List Expr} (h : noStars es = true) (env : Env) (pos : Pos), (backTo pos (starEach es env)).any (·.1) = false
  | [], _, _, _ => rfl
  | e :: es, h, env, pos => by
    obtain ⟨h1, h2⟩ := Bool.and_eq_true_iff.mp (show (notStar e && noStars es) = true from h)
    rw [star_plain h1]
    show (false || (backTo pos (starEach es env)).any (·.1)) = false
    rw [no_stars h2]
    rfl
/-- f(e, .., k = v, ..) -/
theorem se_callK {md : Nat} {q : Fn} {ks : List Str} {ne : Nat} (hq : P.fns[f]? = some q) (F : FnH X.prog X.w X.K X.mg X.base cl hc k f q.ps fa) (hr : Room k X.A) (tk : Takes X W) (hg : Gl X x) (hm : X.mg x = some (.ref fa)) (hdb : (x == ("__debug__" : Str)) = false)
    (hs : noStars (e :: es) = true) (ha : SA X cl W (e :: es) ml) (hkw : SK X cl W kws mk) (hks : kws.map (·.arg) = ks.map some) (hne : q.ps.drop ne = ks) :
    SE X cl W (.Call (.Name x p) (e :: es) kws pos) (M.bind ml fun ds => M.bind mk fun us => if ds.length = ne then callP P hc f (ds ++ us) md else bad) := by
  obtain ⟨fd, F, hk, hb, hkb⟩ := F
  obtain ⟨h1, h2⟩ := Bool.and_eq_true_iff.mp (show (notStar e && noStars es) = true from hs)
  obtain ⟨k1, k2, k3⟩ := kw_all (env := X.env) (pos := pos) hks
  refine ⟨fun pins s σ H Q I h => ?_⟩
  obtain ⟨R, τ, hH, A, h⟩ := h
  refine wpAny_Call_Name_kw (ld_glob I hg hm ?_ hdb)
  refine PySem.W.callWith_KW (h₀ := X.base) I.ok.mod.kin hk k1 (thn (ha.run pos pins s σ H _ I ⟨R, τ, hH, A, rdAt_bind (rel := relL) h⟩) fun us s1 ⟨vs, H1, I1, r, R1, τ1, ds, e1, x1, A1, r1, h1⟩ => ?_) (by rw [no_stars hs, k3]; rfl) (star_plain h1 _)
  subst e1
  refine thn (hkw.run pos pins s1 σ R1.H _ I1 ⟨R1, τ1, rfl, A1, rdAt_bind (rel := relL) h1⟩) fun ws s2 ⟨zs, H2, I2, rz, R2, τ2, es2, e2, x2, A2, r2, h2⟩ => ⟨I2.kIn, ?_⟩
  subst e2
  rw [k2]
  split at h2
  · rename_i hl0
    obtain ⟨hl, h3⟩ := callP_at hq h2
    refine run_fnKD (us := us) (E := WE W) F hr hkb (passAt tk σ) I2 r rz ?_ (sp_of_call A2 (RepL.append (RepL.ext x2 r1) r2) hl h3)
    rw [← hne, ← r.length, r1.length, hl0]
  · exact h2.elim
/-- f(k = v, ..) -/
theorem se_callK0 {md : Nat} {q : Fn} {ks : List Str} (hq : P.fns[f]? = some q) (F : FnH X.prog X.w X.K X.mg X.base cl hc k f q.ps fa) (hr : Room k X.A) (tk : Takes X W) (hg : Gl X x) (hm : X.mg x = some (.ref fa)) (hdb : (x == ("__debug__" : Str)) = false)
    (hkw : SK X cl W kws mk) (hks : kws.map (·.arg) = ks.map some) (hne : q.ps = ks) :
    SE X cl W (.Call (.Name x p) [] kws pos) (M.bind mk fun us => callP P hc f us md) := by
  obtain ⟨fd, F, hk, hb, hkb⟩ := F
  obtain ⟨k1, k2, k3⟩ := kw_all (env := X.env) (pos := pos) hks
  refine ⟨fun pins s σ H Q I h => ?_⟩
  obtain ⟨R, τ, hH, A, h⟩ := h
  refine wpAny_Call_Name_kw (ld_glob I hg hm ?_ hdb)
  refine PySem.W.callWith_KW0 (h₀ := X.base) I.ok.mod.kin hk k1 (thn (hkw.run pos pins s σ H _ I ⟨R, τ, hH, A, rdAt_bind (rel := relL) h⟩) fun ws s2 ⟨zs, H2, I2, rz, R2, τ2, es2, e2, x2, A2, r2, h2⟩ => ⟨I2.kIn, ?_⟩) (by rw [k3]; rfl)
  subst e2
  rw [k2]
  obtain ⟨hl, h3⟩ := callP_at hq h2
  exact run_fnKD (us := []) (vs := []) (E := WE W) F hr hkb (passAt tk σ) I2 .nil rz (by rw [← hne]; rfl) (sp_of_call A2 r2 hl h3)
theorem methK_eq {m : Str} {env : Env} (hb : base0 o = true) (hs : noStars es = true) (hn : es.length + kws.length + 1 < 30) (hk : (backToKw pos (keywordEach kws env)).all (·.1.isSome) = true) (hline : (apos.endLine == pos.line) = true) :
    eval (.Call (.Attribute o m apos) es kws pos) env = (do
      let ov ← eval o env
      standAt apos.atName
      let (f, first) ← holding [ov] (getMethod ov m (plOf o env))
      callWith pos f first (backTo pos (starEach es env)) (backToKw pos (keywordEach kws env))) := by
  have few : methodCallForm (es.length + kws.length) (backTo pos (starEach es env)) (backToKw pos (keywordEach kws env)) = true := by
    unfold methodCallForm
    rw [stars_few hs, hk]
    simp only [Bool.and_self, Bool.true_and, decide_eq_true_eq]
    split <;> omega
  rw [arm_eval_Call, base_eq hb]
  unfold methodCall
  rw [few]
  unfold calleeOf methodCallPos
  simp only [Bool.not_true, Bool.false_or, hline, if_true, ite_true]
  rfl
abbrev methKM (P : Pg) (hc : Hc) (md : Nat) (m : Str) (ks : List Str) (mo : M D) (ml mk : M (List D)) : M D := M.bind mo fun d => M.bind (opS (fun S _ => methD P S d m) ()) fun f => M.bind ml fun ds => M.bind mk fun vs => if (P.fns[f]?).map (fun q => q.ps.drop (ds.length + 1)) = some ks then callP P hc f (d :: (ds ++ vs)) md else bad
theorem se_methK {md : Nat} {m : Str} {ks : List Str} (kit : Kit X.K cl P) (HM : MtH X.prog X.w X.K X.mg X.base cl P hc k m) (hr : Room k X.A) (tk : Takes X W) (hb : base0 o = true) (hs : noStars (e :: es) = true) (hn : (e :: es).length + kws.length + 1 < 30) (hline : (apos.endLine == pos.line) = true)
    (ho : SE X cl W o mo) (ha : SA X cl W (e :: es) ml) (hkw : SK X cl W kws mk) (hks : kws.map (·.arg) = ks.map some) :
    SE X cl W (.Call (.Attribute o m apos) (e :: es) kws pos) (methKM P hc md m ks mo ml mk) := by
  obtain ⟨hs1, hs2⟩ := Bool.and_eq_true_iff.mp (show (notStar e && noStars es) = true from hs)
  obtain ⟨k1, k2, k3⟩ := kw_all (env := X.env) (pos := pos) hks
  refine ⟨fun pins s σ H Q I h => ?_⟩
  obtain ⟨R, τ, hH, A, h⟩ := h
  refine PySem.W.methodCall_KW (pl := plOf o X.env) (thn (ho.run pins s σ H _ I ⟨R, τ, hH, A, rdAt_bind (rel := relD) h⟩) fun u s1 ⟨x, H1, I1, rx, R1, τ1, d, e1, x1, A1, r1, h1⟩ => ?_) (methK_eq hb hs hn k1 hline)
  subst e1
  obtain ⟨f, hf, h2⟩ := rdAt_opS h1
  obtain ⟨c, p, dx, fs, fn, fa, ev, hp, hl, hpc, hfn, ⟨fd, F, hk, hbd, hkb⟩, hm⟩ := meth_case A1 HM r1 hf
  subst ev
  obtain rfl : u = Value.ref p := rx
  refine getmeth_ok I1 hp (kit.cls c hpc) hm hl ?_
  refine PySem.W.callWith_KW (first := [.ref p]) (h₀ := X.base) I.ok.mod.kin hm.kp k1 (thn (ha.run pos pins s1 σ R1.H _ I1 ⟨R1, τ1, rfl, A1, rdAt_bind (rel := relL) h2⟩) fun us s2 ⟨vs, H2, I2, r, R2, τ2, ds, e2, x2, A2, r2, h3⟩ => ?_) (by rw [no_stars hs, k3]; rfl) (star_plain hs1 _)
  subst e2
  refine thn (hkw.run pos pins s2 σ R2.H _ I2 ⟨R2, τ2, rfl, A2, rdAt_bind (rel := relL) h3⟩) fun ws s3 ⟨zs, H3, I3, rz, R3, τ3, us3, e3, x3, A3, r3, h4⟩ => ⟨I3.kIn, ?_⟩
  subst e3
  rw [k2]
  split at h4
  · rename_i hks2
    obtain ⟨hl2, h5⟩ := callP_at hfn h4
    have rr : RepL R3 (.ref p :: (vs ++ zs)) (d :: (ds ++ us3)) := RepL.cons (Rep.ext (x2.trans x3) r1) (RepL.append (RepL.ext x3 r2) r3)
    refine run_fnKD (us := .ref p :: us) (vs := .ref p :: vs) (E := WE W) F hr hkb (passAt tk σ) I3 (.cons rfl r) rz ?_ (sp_of_call A3 rr hl2 h5)
    rw [hfn] at hks2
    rw [← Option.some.inj hks2, List.length_cons, ← r.length, r2.length]
  · exact h4.elim
theorem se_methK0 {md : Nat} {m : Str} {ks : List Str} (kit : Kit X.K cl P) (HM : MtH X.prog X.w X.K X.mg X.base cl P hc k m) (hr : Room k X.A) (tk : Takes X W) (hb : base0 o = true) (hn : kws.length + 1 < 30) (hline : (apos.endLine == pos.line) = true)
    (ho : SE X cl W o mo) (hkw : SK X cl W kws mk) (hks : kws.map (·.arg) = ks.map some) :
    SE X cl W (.Call (.Attribute o m apos) [] kws pos) (methKM P hc md m ks mo (M.pure []) mk) := by
  obtain ⟨k1, k2, k3⟩ := kw_all (env := X.env) (pos := pos) hks
  refine ⟨fun pins s σ H Q I h => ?_⟩
  obtain ⟨R, τ, hH, A, h⟩ := h
  refine PySem.W.methodCall_KW (pl := plOf o X.env) (thn (ho.run pins s σ H _ I ⟨R, τ, hH, A, rdAt_bind (rel := relD) h⟩) fun u s1 ⟨x, H1, I1, rx, R1, τ1, d, e1, x1, A1, r1, h1⟩ => ?_) (methK_eq (es := []) hb rfl (by simpa using hn) k1 hline)
  subst e1
  obtain ⟨f, hf, h2⟩ := rdAt_opS h1
  obtain ⟨c, p, dx, fs, fn, fa, ev, hp, hl, hpc, hfn, ⟨fd, F, hk, hbd, hkb⟩, hm⟩ := meth_case A1 HM r1 hf
  subst ev
  obtain rfl : u = Value.ref p := rx
  refine getmeth_ok I1 hp (kit.cls c hpc) hm hl ?_
  refine PySem.W.callWith_KW0 (first := [.ref p]) (h₀ := X.base) I.ok.mod.kin hm.kp k1 (thn (hkw.run pos pins s1 σ R1.H _ I1 ⟨R1, τ1, rfl, A1, rdAt_bind (rel := relL) (f := fun vs => if (P.fns[f]?).map (fun q => q.ps.drop (([] : List D).length + 1)) = some ks then callP P hc f (d :: (([] : List D) ++ vs)) md else bad) h2⟩) fun ws s3 ⟨zs, H3, I3, rz, R3, τ3, us3, e3, x3, A3, r3, h4⟩ => ⟨I3.kIn, ?_⟩) (by rw [k3]; rfl)
  subst e3
  rw [k2]
  split at h4
  · rename_i hks2
    obtain ⟨hl2, h5⟩ := callP_at hfn h4
    have rr : RepL R3 (.ref p :: zs) (d :: us3) := RepL.cons (Rep.ext x3 r1) r3
    refine run_fnKD (us := [.ref p]) (vs := [.ref p]) (E := WE W) F hr hkb (passAt tk σ) I3 (.cons rfl .nil) rz ?_ (sp_of_call A3 rr hl2 h5)
    rw [hfn] at hks2
    exact (Option.some.inj hks2).symm
  · exact h4.elim
end
end Gc

end

section
set_option Elab.async false
set_option linter.all false
set_option maxRecDepth 100000
set_option maxHeartbeats 1000000
/-! enumerate over a tuple -/
namespace Gc
open PySem PySem.Spec L2
open PyProof.Rows
open AutoSeq1 (wpAny_loadPart')
abbrev tupIt (t : Addr) : Obj := { cls := .type "tuple_iterator", data := .fields #[.ref t, .int 0 0] }
abbrev enumOf (it : Addr) : Obj := { cls := .type "enumerate", data := .fields #[.none, .bool false, .ref it, rawInt 0, .none, .none] }
theorem meets_enumT (t : Addr) (items : Array Value) :
    Meets (Builtin.«enumerate.__new__» ⟨[.type "enumerate", .ref t], []⟩) (fun _ R s => s.heap.IsTuple t items ∧ R (.ok (.ret (.ref (s.heap.push (tupIt t)).objs.size))) { s with heap := (s.heap.push (tupIt t)).push (enumOf s.heap.objs.size) }) :=
  .of_wp fun prog w A R s q => by
    obtain ⟨hp, g, d, tk, os⟩ := s
    obtain ⟨hT, q⟩ := q
    have hT' : Heap.IsTuple (Shared.heap ⟨hp, g, d, tk, os⟩) t items := hT
    obtain ⟨⟨oc, od, odt, osl⟩, hl, hcl, n, hdt⟩ := hT
    replace hcl : oc = .type "tuple" := hcl
    replace hdt : odt = .seq items n := hdt
    subst hcl hdt
    have hs := sub_enumerate
    wp_walk using wpAny_loadPart' hl
    refine wpAny_stack_any fun st => wpAny_pure ?_
    split
    · rename_i c _ _ _ _ _
      cases (c == Value.type "enumerate") <;>
      · wp_walk using wpAny_loadPart' hl, wpAny_pyIter_tuple hT'
        exact ⟨_, rfl, q⟩
    · wp_walk using wpAny_loadPart' hl, wpAny_pyIter_tuple hT'
      exact ⟨_, rfl, q⟩
theorem call_enumT {prog : Program} {w : World} {A : Around} {E : Value → Shared → Prop} {s : Shared} {t : Addr} {items : Array Value} {Q : Value → Shared → Prop} (hT : s.heap.IsTuple t items)
    (q : ∀ h1, IsEnum h1 (s.heap.objs.size + 1) s.heap.objs.size 0 .none → h1.IsTupleIter s.heap.objs.size t 0 → (∀ b o, s.heap.get? b = some o → h1.get? b = some o) → Q (.ref (s.heap.objs.size + 1)) { s with heap := h1 }) :
    wpAny (model prog w) A (call (.type "enumerate") [.ref t]) Q E s := by
  refine callType_new F.called_enumerate (by decide) (F.typeCall_enumerate_1 _) (F.newCall_enumerate_1 _) (fun o => F.args_object_init_2 o _) F.entry_enumerate_new (meets_enumT t items) ⟨hT, ?_⟩
  have hz : (s.heap.push (tupIt t)).objs.size = s.heap.objs.size + 1 := Heap.size_push ..
  have he : IsEnum ((s.heap.push (tupIt t)).push (enumOf s.heap.objs.size)) (s.heap.objs.size + 1) s.heap.objs.size 0 .none := by
    have e1 := Heap.get?_push_size (s.heap.push (tupIt t)) (o := enumOf s.heap.objs.size) rfl
    rw [hz] at e1
    exact e1
  show _ ∧ _
  rw [hz]
  exact ⟨⟨_, he, rfl⟩, q _ he ⟨_, Heap.get?_push_of_some _ (Heap.get?_push_size _ rfl), rfl, rfl⟩ fun b o x => Heap.get?_push_of_some _ (Heap.get?_push_of_some _ x)⟩
/-- the tuple at a, its items in new pairs -/
def IteT (a : Addr) : It :=
  ⟨fun i H => ∃ (xs : List V) (x : V), H a = some (.tup xs) ∧ xs[i]? = some x, fun i H v H' => ∃ T x, v = .ref T ∧ H T = none ∧ H' = upd H T (.tup [.int (i : Nat), x]) ∧ ∀ xs, H a = some (.tup xs) → xs[i]? = some x, fun i H => ∃ xs : List V, H a = some (.tup xs) ∧ xs.length ≤ i⟩
theorem turn_enumT {P : Program} {w : World} {K : PySem.W.Frag} {elts : List Expr} {kk : Nat} {tpos : Pos} (a e it : Addr) :
    Turn P w K (.Tuple elts kk tpos) (IteT a) [e, it] e (fun i h => (∃ old, IsEnum h e it ((i : Nat) : Int) old) ∧ h.IsTupleIter it a i ∧ e ≠ it) where
  mem := by simp
  obj := fun i h st b hb => by
    obtain ⟨⟨old, he⟩, ⟨o, ho, hc, hd⟩, _⟩ := st
    rcases List.mem_cons.mp hb with z | z
    · subst z; exact ⟨_, he, fun v q => nomatch q⟩
    · have z : b = it := by simpa using z
      exact ⟨o, by rw [z]; exact ho, fun v q => by rw [hd] at q; cases q⟩
  keep := fun i h h' ⟨⟨old, he⟩, ⟨o, ho, hr⟩, hne⟩ k => ⟨⟨old, k e (by simp) _ he⟩, ⟨o, k it (by simp) o ho, hr⟩, hne⟩
  item := by
    intro X hP hw hK hc i pins s σ H E I hf st hg
    subst hP hw hK
    obtain ⟨⟨old, he⟩, hit, hne⟩ := st
    obtain ⟨xs, x, hq, hx⟩ := hg
    obtain ⟨its, rv, pt, hz⟩ := I.tuple (SqT.of (K := X.K) hq)
    obtain ⟨u, hu, ru⟩ := rv.get hx
    have hea : e ≠ a := fun z => by
      have := (hf e (by simp)).1
      rw [z, hq] at this
      cases this
    have hia : a ≠ it := fun z => by
      have := (hf it (by simp)).1
      rw [← z, hq] at this
      cases this
    have hel : e < s.heap.objs.size := Heap.lt_size he
    have hil : it < s.heap.objs.size := by obtain ⟨_, q, _⟩ := hit; exact Heap.lt_size q
    have hlt : i < its.toArray.size := by
      have := (List.getElem?_eq_some_iff.mp hu).1
      simpa using this
    have hh : X.A.in1.handled = none := I.ok.hd hc
    refine wpAny_pyNext_enum_itemD (Draws.tuple hh it a hia its.toArray) he ⟨hit, pt⟩ hlt hne (by simp [hne, hea]) fun y h' tk hy ho hit' hT hsz hk => ?_
    have ey : y = u := by
      have hy : its.toArray[i]? = some y := hy
      rw [List.getElem?_toArray, hu] at hy
      exact (Option.some.inj hy).symm
    subst ey
    refine ⟨_, rfl, wpAny_letOwnedTupleGo_enum (s := { s with heap := h', toks := tk + 1 }) ho fun h'' he' sb => ?_⟩
    have hT2 : h''.get? s.heap.objs.size = some { cls := .type "tuple", data := .seq #[.int i tk, y] } := (sb.2 _ (Nat.ne_of_gt hel)).trans hT
    have nw : ObjOk X.prog X.w (upd H s.heap.objs.size (.tup [.int (i : Nat), x])) h'' s.heap.objs.size (.tup [.int (i : Nat), x]) :=
      ⟨by show 2 ≤ sizeLine; decide, [.int i tk, y], .cons ⟨_, rfl⟩ (.cons ru .nil), ⟨_, hT2, rfl, _, rfl⟩⟩
    have I1 : Inv X pins σ (upd H s.heap.objs.size (.tup [.int (i : Nat), x])) { s with heap := h'', toks := tk + 1 } :=
      I.turnedNew (ch := [e, it]) (fun b ob hb q => (sb.2 b (fun z => hb (by simp [z]))).trans (hk b ob (fun z => hb (by simp [z])) (fun z => hb (by simp [z])) q)) hf (Nat.le_refl _) nw
    obtain ⟨o2, g1, g2⟩ := hit'.1
    refine ⟨.ref s.heap.objs.size, _, I1, rfl, ⟨_, x, rfl, I.hok.fresh (Nat.le_refl _), rfl, fun ys hy => by rw [hq] at hy; cases hy; exact hx⟩, ⟨⟨y, ?_⟩, ⟨o2, (sb.2 it (Ne.symm hne)).trans g1, g2⟩, hne⟩, fun b hb => ?_⟩
    · have e1 : ((i + 1 : Nat) : Int) = (i : Int) + 1 := by omega
      rw [e1]; exact he'
    · have hb' : b < s.heap.objs.size := by
        rcases List.mem_cons.mp hb with z | z
        · rw [z]; exact hel
        · have z : b = it := by simpa using z
          rw [z]; exact hil
      rw [upd_ne (Nat.ne_of_lt hb')]
      exact (hf b hb).1
  done := by
    intro X hP hw hK hc i pins s σ H E I hf st hg
    subst hP hw hK
    obtain ⟨⟨old, he⟩, hit, hne⟩ := st
    obtain ⟨xs, hq, hx⟩ := hg
    obtain ⟨its, rv, pt, hz⟩ := I.tuple (SqT.of (K := X.K) hq)
    obtain ⟨f0, f1, f2, f3, f4, f5⟩ := hf it (by simp)
    have hia : a ≠ it := fun z => by
      rw [← z, hq] at f0
      cases f0
    have hh : X.A.in1.handled = none := I.ok.hd hc
    have hl := rv.length
    have hT : s.TypeIs (.ref e) "enumerate" := ⟨_, he, rfl⟩
    unfold pyNext
    refine wpAny_bind (wpAny_attempt (wpAny_callSpecial?_slot (name := Str.ofString "__next__") hT F.slot_enumerate_next
      (wpAny_call_entry F.slot_enumerate_next hT F.entry_enumerate_next ?_ (F.args_enumerate_next_1 _))))
    show wpAny _ _ (field (.ref e) 2 >>= _) _ _ _
    refine wpAny_bind (wpAny_field he rfl (x := .ref it) rfl ?_)
    refine wpAny_bind (wpAny_nextOf_tuple_end hh hit pt (by simp; omega) fun h' x he' hx' => ?_)
    obtain ⟨o, ho, hc'⟩ := hx'
    refine wpAny_bind (wpAny_isInstance (T := "StopIteration") (b := true) ⟨o, ho, hc'⟩ isSubtype_stop ?_)
    exact wpAny_pure ⟨rfl, I.turned (t' := s.toks) (fun b o hb q => he' b o hb q) f0 f1 f3 f4 f5⟩
  self := fun A i s Q E st h => let ⟨⟨_, he⟩, _⟩ := st; wpAny_pyIter_enum he h
/-- enumerate over a list or a tuple -/
def iEnumB (K : PySem.W.Frag) (ta : TA) : TI := fun σ H R => ta σ H fun vs H1 => (∃ a xs, vs = [.ref a] ∧ SqL K H1 a xs ∧ R (Ite K a) H1) ∨ ∃ a xs, vs = [.ref a] ∧ H1 a = some (.tup xs) ∧ R (IteT a) H1
theorem pi_enumB {X : Cx} {e : Expr} {ta : TA} {p pos tpos : Pos} {elts : List Expr} {kk : Nat} (hg : Gl X "enumerate") (hm : X.mg "enumerate" = none) (ha : PA X [e] ta) (hs : starEach [e] X.env = [(false, eval e X.env)]) :
    PI X (.Tuple elts kk tpos) (.Call (.Name "enumerate" p) [e] [] pos) (iEnumB X.K ta) := by
  refine ⟨fun pins s σ H R I h => ?_⟩
  refine Call_ (ld_blt I hg hm boot_enumerate (PyProof.Rows.callWith_type1 (thn (ha.run pos pins s σ H _ I h) fun us s1 ⟨vs, H1, I1, r1, q1⟩ => ?_) hs rfl))
  have two : ∀ {c b : Nat}, c ∈ [b + 1, b] → b ≤ c := fun {c b} hc => by
    rcases List.mem_cons.mp hc with z | z
    · omega
    · have z : c = b := by simpa using z
      omega
  rcases q1 with ⟨a, xs, ex, hq, q⟩ | ⟨a, xs, ex, hq, q⟩
  · subst ex
    cases r1 with
    | cons r rr =>
      cases rr
      cases r
      obtain ⟨its, rv, pl, hz⟩ := I1.list hq
      refine call_enumerate_list pl.isList fun h1 he hit hsz hk => wpAny_pyIter_enum he ?_
      exact ⟨s1.heap.objs.size + 1, [s1.heap.objs.size + 1, s1.heap.objs.size], _, _, H1, rfl, I1.kept (t' := s1.toks) hk, turn_enum a (s1.heap.objs.size + 1) s1.heap.objs.size, ⟨⟨.none, he⟩, hit, Nat.succ_ne_self _⟩, fun b hb => I1.fpOk (two hb) (I1.hok.fresh (two hb)), q⟩
  · subst ex
    cases r1 with
    | cons r rr =>
      cases rr
      cases r
      obtain ⟨its, rv, pl, hz⟩ := I1.tuple (SqT.of (K := X.K) hq)
      refine call_enumT pl fun h1 he hit hk => wpAny_pyIter_enum he ?_
      exact ⟨s1.heap.objs.size + 1, [s1.heap.objs.size + 1, s1.heap.objs.size], _, _, H1, rfl, I1.kept (t' := s1.toks) hk, turn_enumT a (s1.heap.objs.size + 1) s1.heap.objs.size, ⟨⟨.none, he⟩, hit, Nat.succ_ne_self _⟩, fun b hb => I1.fpOk (two hb) (I1.hok.fresh (two hb)), q⟩
end Gc

end

section
set_option Elab.async false
set_option linter.all false
set_option maxRecDepth 100000
set_option maxHeartbeats 1000000
/-! the interpreter is sound: what is walked, targets, comprehensions -/
namespace Gc
open PySem PySem.Spec L2

/-! ### what is walked -/
/-- J yields what src tells, in whatever comes later -/
def Goes (J : It) (R1 : RC) (src : List D) : Prop := ∀ R2, Go R1 R2 → Cells R2 → ∀ i : Nat,
  (∀ d, src[i]? = some d → J.go i R2.H ∧ ∀ x H', J.yld i R2.H x H' → ∃ R3, R3.H = H' ∧ Ext R2 R3 ∧ R3.S = R2.S ∧ Cells R3 ∧ Rep R3 x d) ∧ (src.length ≤ i → J.stop i R2.H)
/-- the reading of a source: its run tells the items -/
def rdI (K : PySem.W.Frag) (cl : CL) (W : WX) (m : M (List D)) : TI := fun σ H C => ∃ R τ, R.H = H ∧ At K cl R σ τ ∧
  match m ⟨τ, R.S⟩ with
  | .ok src s => ∀ J R1, Ext R R1 → R1.S = s.S → At K cl R1 σ s.τ → Goes J R1 src → C J R1.H
  | .exn c ns xs s => ∀ R' cls dd, Ext R R' → R'.S = s.S → At K cl R' σ s.τ → RepX R' c ns xs cls dd → W cls dd σ R'.H
  | .bad => False
abbrev SI (X : Cx) (cl : CL) (W : WX) (tg e : Expr) (m : M (List D)) : Prop := PI X tg e (rdI X.K cl W m)
theorem PI.weak {X : Cx} {tg e : Expr} {t t' : TI} (h : PI X tg e t) (w : ∀ σ H Q, t' σ H Q → t σ H Q) : PI X tg e t' := ⟨fun pins s σ H Q I hh => h.run pins s σ H Q I (w σ H Q hh)⟩
theorem PI.or {X : Cx} {tg e : Expr} {t t' : TI} (h : PI X tg e t) (h' : PI X tg e t') : PI X tg e (fun σ H Q => t σ H Q ∨ t' σ H Q) := ⟨fun pins s σ H Q I hh => hh.elim (h.run pins s σ H Q I) (h'.run pins s σ H Q I)⟩

theorem goes_list {K : PySem.W.Frag} {R1 : RC} {a : Addr} {vs : List V} {xs : List D} (h : R1.H a = some (.lst vs)) (n : R1.NL a) (r : RepL R1 vs xs) : Goes (Itl K a) R1 xs := fun R2 g C i => by
  have h2 := (g.hp _ _ h n).1
  have r2 := RepL.go g _ _ r
  have uniq : ∀ {ys : List V}, SqL K R2.H a ys → R2.H a = some (.lst vs) := fun _ => h2
  refine ⟨fun d hd => ?_, fun hl => ⟨vs, SqL.of h2, by rw [r.length]; exact hl⟩⟩
  obtain ⟨v, hv, rv⟩ := r2.get hd
  refine ⟨⟨vs, v, SqL.of h2, hv⟩, fun x H' ⟨e, hx⟩ => ?_⟩
  subst e
  have ex := hx vs (SqL.of h2)
  rw [hv] at ex
  cases ex
  exact ⟨R2, rfl, Ext.refl _, rfl, C, rv⟩
theorem goes_tup {K : PySem.W.Frag} {R1 : RC} {a : Addr} {vs : List V} {xs : List D} (h : R1.H a = some (.tup vs)) (n : R1.NL a) (r : RepL R1 vs xs) : Goes (Itt K a) R1 xs := fun R2 g C i => by
  have h2 := (g.hp _ _ h n).1
  have r2 := RepL.go g _ _ r
  refine ⟨fun d hd => ?_, fun hl => ⟨vs, SqT.of h2, by rw [r.length]; exact hl⟩⟩
  obtain ⟨v, hv, rv⟩ := r2.get hd
  refine ⟨⟨vs, v, SqT.of h2, hv⟩, fun x H' ⟨e, hx⟩ => ?_⟩
  subst e
  have ex := hx vs (SqT.of h2)
  rw [hv] at ex
  cases ex
  exact ⟨R2, rfl, Ext.refl _, rfl, C, rv⟩
theorem goes_rng {R1 : RC} {lo : Int} {n : Nat} : Goes (Itr lo n) R1 ((List.range n).map fun k : Nat => D.int (lo + (k : Int))) := fun R2 g C i => by
  refine ⟨fun d hd => ?_, fun hl => by
    rw [List.length_map, List.length_range] at hl
    exact hl⟩
  rw [List.getElem?_map] at hd
  have hi : i < n := by
    cases q : (List.range n)[i]? with
    | none => rw [q] at hd; cases hd
    | some z => have := (List.getElem?_eq_some_iff.mp q).1; simpa using this
  rw [List.getElem?_range hi] at hd
  cases hd
  refine ⟨hi, fun x H' ⟨e, hx⟩ => ?_⟩
  subst e hx
  exact ⟨R2, rfl, Ext.refl _, rfl, C, rep_int⟩
theorem goes_str {R1 : RC} {z : Str} : Goes (Its z) R1 (z.cps.toList.map fun c => D.str ⟨#[c]⟩) := fun R2 g C i => by
  refine ⟨fun d hd => ?_, fun hl => ?_⟩
  · rw [List.getElem?_map] at hd
    cases q : z.cps.toList[i]? with
    | none => rw [q] at hd; cases hd
    | some c =>
      rw [q] at hd
      cases hd
      have hi : i < z.cps.size := by have := (List.getElem?_eq_some_iff.mp q).1; simpa using this
      refine ⟨hi, fun x H' ⟨e, c', hc, hx⟩ => ?_⟩
      subst e hx
      rw [Array.getElem?_toList] at q
      rw [q] at hc
      cases hc
      exact ⟨R2, rfl, Ext.refl _, rfl, C, rep_str⟩
  · rw [List.length_map, Array.length_toList] at hl
    exact hl
section
variable {X : Cx} {cl : CL} {W : WX} {a b e tg : Expr} {pos p : Pos} {ma mb : M D} {es : List Expr}
abbrev one1M (ma : M D) : M (List D) := M.bind ma fun x => M.bind (M.pure []) fun xs => M.pure (x :: xs)
abbrev two1M (ma mb : M D) : M (List D) := M.bind ma fun x => M.bind (M.bind mb fun y => M.bind (M.pure []) fun xs => M.pure (y :: xs)) fun xs => M.pure (x :: xs)
theorem rdI_one {k : Wk} {σ : St} {H : Hp} {C : It → Hp → Prop} (h : rdI X.K cl W (wkM k (one1M ma)) σ H C) : rd relD X.K cl W ma σ H (fun x H1 => ∃ R τ d src, R.H = H1 ∧ At X.K cl R σ τ ∧ Rep R x d ∧ walkD R.S k [d] = some src ∧ ∀ J, Goes J R src → C J R.H) := by
  obtain ⟨R, τ, hH, A, h⟩ := h
  refine ⟨R, τ, hH, A, ?_⟩
  unfold wkM one1M at h
  rw [M.bind_assoc] at h
  unfold rdAt
  unfold M.bind at h
  cases q : ma ⟨τ, R.S⟩ with
  | bad => rw [q] at h; exact h
  | exn c ns xs s => rw [q] at h; exact h
  | ok d s =>
    rw [q] at h
    dsimp only at h ⊢
    intro x R1 x1 e1 A1 r1
    have h' : (match opS (fun S _ => walkD S k [d]) () s with
      | .ok src s => ∀ J R1, Ext R R1 → R1.S = s.S → At X.K cl R1 σ s.τ → Goes J R1 src → C J R1.H
      | .exn c ns xs s => ∀ R' cls dd, Ext R R' → R'.S = s.S → At X.K cl R' σ s.τ → RepX R' c ns xs cls dd → W cls dd σ R'.H
      | .bad => False) := h
    unfold opS at h'
    dsimp only at h'
    cases q2 : walkD s.S k [d] with
    | none => rw [q2] at h'; exact h'.elim
    | some src =>
      rw [q2] at h'
      exact ⟨R1, s.τ, d, src, rfl, A1, r1, by rw [e1]; exact q2, fun J g => h' J R1 x1 e1 A1 g⟩
/-- a list, a tuple, a text walked, by its value -/
def iSeq (K : PySem.W.Frag) (tl : TE) : TI := fun σ H R => tl σ H fun x H1 => (∃ a, x = .ref a ∧ (∃ xs, SqL K H1 a xs) ∧ R (Itl K a) H1) ∨ (∃ a, x = .ref a ∧ (∃ xs, SqT K H1 a xs) ∧ R (Itt K a) H1) ∨ ∃ z, x = .str z ∧ R (Its z) H1
theorem pi_seq {l : Expr} {tl : TE} (hl : PE X l tl) : PI X tg l (iSeq X.K tl) := by
  refine ⟨fun pins s σ H R I h => ?_⟩
  refine thn (hl.run pins s σ H _ I h) fun v s1 ⟨x, H1, I1, r1, q1⟩ => ?_
  rcases q1 with ⟨a, e, ⟨xs, hq⟩, q⟩ | ⟨a, e, ⟨xs, hq⟩, q⟩ | ⟨z, e, q⟩
  · subst e
    cases r1
    obtain ⟨its, rv, p, hz⟩ := I1.list hq
    exact wpAny_pyIter_list p.isList (pi_one (tk := s1.toks) I1 _ (turn_list a _) ⟨_, Heap.get?_push_size _ rfl, rfl, rfl⟩ q)
  · subst e
    cases r1
    obtain ⟨its, rv, p, hz⟩ := I1.tuple hq
    exact wpAny_pyIter_tuple (show s1.heap.IsTuple a its.toArray from p) (pi_one (tk := s1.toks) I1 _ (turn_tuple a _) ⟨_, Heap.get?_push_size _ rfl, rfl, rfl⟩ q)
  · subst e
    obtain ⟨t, rfl⟩ := r1
    cases ha : z.cps.all (· < 128)
    · exact wpAny_pyIter_wide ha (pi_one (tk := s1.toks) I1 _ (turn_str _ z t "str_iterator" (.inr rfl)) ⟨_, Heap.get?_push_size _ rfl, rfl, rfl⟩ q)
    · exact wpAny_pyIter_ascii ha (pi_one (tk := s1.toks) I1 _ (turn_str _ z t "str_ascii_iterator" (.inl rfl)) ⟨_, Heap.get?_push_size _ rfl, rfl, rfl⟩ q)
theorem si_seq (ha : SE X cl W a ma) : SI X cl W tg a (wkM .seq (one1M ma)) := by
  refine PI.weak (pi_seq ha) fun σ H C h => ?_
  obtain ⟨R, τ, hH, A, h⟩ := rdI_one h
  refine ⟨R, τ, hH, A, rdAt_mono h fun x H1 ⟨R1, τ1, d, src, e1, A1, r1, hw, hC⟩ => ?_⟩
  subst e1
  cases d with
  | lst xs =>
    cases hw
    unfold Rep at r1
    obtain ⟨a, vs, ev, hh, n, rr⟩ := r1
    exact .inl ⟨a, ev, ⟨vs, SqL.of hh⟩, hC _ (goes_list hh n rr)⟩
  | tup xs =>
    cases hw
    unfold Rep at r1
    obtain ⟨a, vs, ev, hh, n, rr⟩ := r1
    exact .inr (.inl ⟨a, ev, ⟨vs, SqT.of hh⟩, hC _ (goes_tup hh n rr)⟩)
  | str z =>
    cases hw
    exact .inr (.inr ⟨z, de_strv r1, hC _ goes_str⟩)
  | _ => cases hw
theorem si_rng1 {p' : Pos} (hg : Gl X "range") (hm : X.mg "range" = none) (hs : notStar e = true) (ha : SE X cl W e ma) : SI X cl W tg (.Call (.Name "range" p') [e] [] pos) (wkM .rng1 (one1M ma)) := by
  refine PI.weak (pi_range1 hg hm (pa_cons ha pa_nil (star_plain hs _)) (star_plain hs _)) fun σ H C h => ?_
  obtain ⟨R, τ, hH, A, h⟩ := rdI_one h
  refine ⟨R, τ, hH, A, rdAt_mono h fun x H1 ⟨R1, τ1, d, src, e1, A1, r1, hw, hC⟩ => ?_⟩
  subst e1
  cases d with
  | int j =>
    have hw' : (if -(2 ^ 62) ≤ j ∧ j < 2 ^ 62 then some ((List.range j.toNat).map fun k : Nat => D.int (k : Int)) else none) = some src := hw
    split at hw'
    · rename_i hj
      cases hw'
      refine ⟨j, by rw [de_int r1], hj.1, hj.2, hC _ ?_⟩
      have g := goes_rng (R1 := R1) (lo := 0) (n := j.toNat)
      have e0 : (fun k : Nat => D.int (0 + (k : Int))) = fun k : Nat => D.int (k : Int) := by funext k; rw [Int.zero_add]
      rw [e0] at g
      exact g
    · cases hw'
  | _ => cases hw
theorem rdI_two {k : Wk} {σ : St} {H : Hp} {C : It → Hp → Prop} (h : rdI X.K cl W (wkM k (two1M ma mb)) σ H C) :
    rd relD X.K cl W ma σ H (fun x H1 => rd relD X.K cl W mb σ H1 fun y H2 => ∃ R τ d e src, R.H = H2 ∧ At X.K cl R σ τ ∧ Rep R x d ∧ Rep R y e ∧ walkD R.S k [d, e] = some src ∧ ∀ J, Goes J R src → C J R.H) := by
  obtain ⟨R, τ, hH, A, h⟩ := h
  refine ⟨R, τ, hH, A, ?_⟩
  unfold wkM two1M at h
  rw [M.bind_assoc] at h
  unfold rdAt
  unfold M.bind at h
  cases q : ma ⟨τ, R.S⟩ with
  | bad => rw [q] at h; exact h
  | exn c ns xs s => rw [q] at h; exact h
  | ok d s =>
    rw [q] at h
    dsimp only at h ⊢
    intro x R1 x1 e1 A1 r1
    have es : (⟨s.τ, R1.S⟩ : MS) = s := by rw [e1]
    refine ⟨R1, s.τ, rfl, A1, ?_⟩
    unfold rdAt
    rw [es]
    cases q1 : mb s with
    | bad => rw [q1] at h; exact h
    | exn c ns xs s' => rw [q1] at h; exact fun R' cls dd x' e' A' r' => h R' cls dd (x1.trans x') e' A' r'
    | ok e' s' =>
      rw [q1] at h
      dsimp only at h ⊢
      intro y R2 x2 e2 A2 r2
      have h' : (match opS (fun S _ => walkD S k [d, e']) () s' with
        | .ok src s => ∀ J R1, Ext R R1 → R1.S = s.S → At X.K cl R1 σ s.τ → Goes J R1 src → C J R1.H
        | .exn c ns xs s => ∀ R' cls dd, Ext R R' → R'.S = s.S → At X.K cl R' σ s.τ → RepX R' c ns xs cls dd → W cls dd σ R'.H
        | .bad => False) := h
      unfold opS at h'
      dsimp only at h'
      cases q2 : walkD s'.S k [d, e'] with
      | none => rw [q2] at h'; exact h'.elim
      | some src =>
        rw [q2] at h'
        exact ⟨R2, s'.τ, d, e', src, rfl, A2, Rep.ext x2 r1, r2, by rw [e2]; exact q2, fun J g => h' J R2 (x1.trans x2) e2 A2 g⟩
theorem si_rng2 {p' : Pos} (hg : Gl X "range") (hm : X.mg "range" = none) (hs : notStar a = true) (hs2 : notStar b = true) (ha : SE X cl W a ma) (hb : SE X cl W b mb) : SI X cl W tg (.Call (.Name "range" p') [a, b] [] pos) (wkM .rng2 (two1M ma mb)) := by
  refine PI.weak (pi_range2 hg hm (pa_cons ha (pa_cons hb pa_nil (star_plain hs2 _)) (star_plain hs _)) (by rw [star_plain hs, star_plain hs2]; rfl) (star_plain hs2 _)) fun σ H C h => ?_
  obtain ⟨R, τ, hH, A, h⟩ := rdI_two h
  refine ⟨R, τ, hH, A, rdAt_mono h fun x H1 ⟨R1, τ1, e1, A1, h1⟩ => ⟨R1, τ1, e1, A1, rdAt_mono h1 fun y H2 ⟨R2, τ2, d, e, src, e2, A2, r1, r2, hw, hC⟩ => ?_⟩⟩
  subst e2
  cases d with
  | int i =>
    cases e with
    | int j =>
      have hw' : (if (-(2 ^ 62) ≤ i ∧ i < 2 ^ 62) ∧ -(2 ^ 62) ≤ j ∧ j < 2 ^ 62 then some ((List.range (j - i).toNat).map fun k : Nat => D.int (i + (k : Int))) else none) = some src := hw
      split at hw'
      · rename_i hj
        cases hw'
        exact ⟨i, j, by rw [de_int r1, de_int r2], ⟨hj.1.1, hj.1.2, hj.2.1, hj.2.2⟩, hC _ goes_rng⟩
      · cases hw'
    | _ => cases hw
  | _ => cases e <;> cases hw
theorem goes_enum {K : PySem.W.Frag} {R1 : RC} {a : Addr} {vs : List V} {xs : List D} (h : R1.H a = some (.lst vs)) (n : R1.NL a) (r : RepL R1 vs xs) : Goes (Ite K a) R1 ((List.range xs.length).zipWith (fun (n : Nat) x => D.tup [.int (n : Int), x]) xs) := fun R2 g C i => by
  have h2 := (g.hp _ _ h n).1
  have r2 := RepL.go g _ _ r
  refine ⟨fun d hd => ?_, fun hl => ⟨vs, SqL.of h2, ?_⟩⟩
  · have hi : i < xs.length := by
      have z := (List.getElem?_eq_some_iff.mp hd).1
      rw [List.length_zipWith, List.length_range] at z
      omega
    obtain ⟨v, hv, rv⟩ := r2.get (List.getElem?_eq_getElem hi)
    have ed : d = .tup [.int (i : Nat), xs[i]] := by
      rw [List.getElem?_zipWith, List.getElem?_range hi, List.getElem?_eq_getElem hi] at hd
      exact (Option.some.inj hd).symm
    subst ed
    refine ⟨⟨vs, v, SqL.of h2, hv⟩, fun x H' ⟨T, x', ex, hT, eH, hx⟩ => ?_⟩
    subst ex eH
    have ex := hx vs (SqL.of h2)
    rw [hv] at ex
    cases ex
    refine ⟨R2.upd T (.tup [.int (i : Nat), v]), rfl, Ext.new hT, rfl, C.new hT, ?_⟩
    unfold Rep
    exact ⟨T, _, rfl, upd_same, C.nl hT, RepL.cons rep_int (RepL.cons (Rep.ext (Ext.new hT) rv) RepL.nil)⟩
  · rw [List.length_zipWith, List.length_range] at hl
    rw [r.length]
    omega
theorem goes_enumT {R1 : RC} {a : Addr} {vs : List V} {xs : List D} (h : R1.H a = some (.tup vs)) (n : R1.NL a) (r : RepL R1 vs xs) :
    Goes (IteT a) R1 ((List.range xs.length).zipWith (fun (n : Nat) x => D.tup [.int (n : Int), x]) xs) := fun R2 g C i => by
  have h2 := (g.hp _ _ h n).1
  have r2 := RepL.go g _ _ r
  refine ⟨fun d hd => ?_, fun hl => ⟨vs, h2, ?_⟩⟩
  · have hi : i < xs.length := by
      have z := (List.getElem?_eq_some_iff.mp hd).1
      rw [List.length_zipWith, List.length_range] at z
      omega
    obtain ⟨v, hv, rv⟩ := r2.get (List.getElem?_eq_getElem hi)
    have ed : d = .tup [.int (i : Nat), xs[i]] := by
      rw [List.getElem?_zipWith, List.getElem?_range hi, List.getElem?_eq_getElem hi] at hd
      exact (Option.some.inj hd).symm
    subst ed
    refine ⟨⟨vs, v, h2, hv⟩, fun x H' ⟨T, x', ex, hT, eH, hx⟩ => ?_⟩
    subst ex eH
    have ex := hx vs h2
    rw [hv] at ex
    cases ex
    refine ⟨R2.upd T (.tup [.int (i : Nat), v]), rfl, Ext.new hT, rfl, C.new hT, ?_⟩
    unfold Rep
    exact ⟨T, _, rfl, upd_same, C.nl hT, RepL.cons rep_int (RepL.cons (Rep.ext (Ext.new hT) rv) RepL.nil)⟩
  · rw [List.length_zipWith, List.length_range] at hl
    rw [r.length]
    omega
theorem si_enum {p' tpos : Pos} {elts : List Expr} {kk : Nat} (hg : Gl X "enumerate") (hm : X.mg "enumerate" = none) (hs : notStar e = true) (ha : SE X cl W e ma) : SI X cl W (.Tuple elts kk tpos) (.Call (.Name "enumerate" p') [e] [] pos) (wkM .enum (one1M ma)) := by
  refine PI.weak (pi_enumB hg hm (pa_cons ha pa_nil (star_plain hs _)) (star_plain hs _)) fun σ H C h => ?_
  obtain ⟨R, τ, hH, A, h⟩ := rdI_one h
  refine ⟨R, τ, hH, A, rdAt_mono h fun x H1 ⟨R1, τ1, d, src, e1, A1, r1, hw, hC⟩ => ?_⟩
  subst e1
  cases d with
  | lst xs =>
    cases hw
    unfold Rep at r1
    obtain ⟨a, vs, ev, hh, n, rr⟩ := r1
    exact .inl ⟨a, vs, by rw [ev], SqL.of hh, hC _ (goes_enum hh n rr)⟩
  | tup xs =>
    cases hw
    unfold Rep at r1
    obtain ⟨a, vs, ev, hh, n, rr⟩ := r1
    exact .inr ⟨a, vs, by rw [ev], hh, hC _ (goes_enumT hh n rr)⟩
  | _ => cases hw
theorem goes_zip {K : PySem.W.Frag} {R1 : RC} {a b : Addr} {vs ws : List V} {xs ys : List D} (h : R1.H a = some (.lst vs)) (n : R1.NL a) (r : RepL R1 vs xs) (h' : R1.H b = some (.lst ws)) (n' : R1.NL b) (r' : RepL R1 ws ys) :
    Goes (Itz K a b) R1 (List.zipWith (fun x y => D.tup [x, y]) xs ys) := fun R2 g C i => by
  have h2 := (g.hp _ _ h n).1
  have r2 := RepL.go g _ _ r
  have h2' := (g.hp _ _ h' n').1
  have r2' := RepL.go g _ _ r'
  refine ⟨fun d hd => ?_, fun hl => ⟨vs, ws, SqL.of h2, SqL.of h2', ?_⟩⟩
  · have hi : i < xs.length ∧ i < ys.length := by
      have z := (List.getElem?_eq_some_iff.mp hd).1
      rw [List.length_zipWith] at z
      omega
    obtain ⟨v, hv, rv⟩ := r2.get (List.getElem?_eq_getElem hi.1)
    obtain ⟨w, hw, rw'⟩ := r2'.get (List.getElem?_eq_getElem hi.2)
    have ed : d = .tup [xs[i]'hi.1, ys[i]'hi.2] := by
      rw [List.getElem?_zipWith, List.getElem?_eq_getElem hi.1, List.getElem?_eq_getElem hi.2] at hd
      exact (Option.some.inj hd).symm
    subst ed
    refine ⟨⟨vs, ws, v, w, SqL.of h2, SqL.of h2', hv, hw⟩, fun x H' ⟨T, x', y', ex, hT, eH, hx, hy⟩ => ?_⟩
    subst ex eH
    have ex := hx vs (SqL.of h2)
    rw [hv] at ex
    cases ex
    have ey := hy ws (SqL.of h2')
    rw [hw] at ey
    cases ey
    refine ⟨R2.upd T (.tup [v, w]), rfl, Ext.new hT, rfl, C.new hT, ?_⟩
    unfold Rep
    exact ⟨T, _, rfl, upd_same, C.nl hT, RepL.cons (Rep.ext (Ext.new hT) rv) (RepL.cons (Rep.ext (Ext.new hT) rw') RepL.nil)⟩
  · rw [List.length_zipWith] at hl
    rw [r.length, r'.length]
    omega
theorem si_zip {p' tpos : Pos} {elts : List Expr} {kk : Nat} (hg : Gl X "zip") (hm : X.mg "zip" = none) (hs : notStar a = true) (hs2 : notStar b = true) (ha : SE X cl W a ma) (hb : SE X cl W b mb) :
    SI X cl W (.Tuple elts kk tpos) (.Call (.Name "zip" p') [a, b] [] pos) (wkM .zip (two1M ma mb)) := by
  refine PI.weak (pi_zip hg hm (pa_cons ha (pa_cons hb pa_nil (star_plain hs2 _)) (star_plain hs _)) (star_plain hs _) (by rw [star_plain hs2]; rfl)) fun σ H C h => ?_
  obtain ⟨R, τ, hH, A, h⟩ := rdI_two h
  refine ⟨R, τ, hH, A, rdAt_mono h fun x H1 ⟨R1, τ1, e1, A1, h1⟩ => ⟨R1, τ1, e1, A1, rdAt_mono h1 fun y H2 ⟨R2, τ2, d, e, src, e2, A2, r1, r2, hw, hC⟩ => ?_⟩⟩
  subst e2
  cases d with
  | lst xs =>
    cases e with
    | lst ys =>
      cases hw
      unfold Rep at r1 r2
      obtain ⟨a, vs, ev, hh, n, rr⟩ := r1
      obtain ⟨b, ws, ew, hh', n', rr'⟩ := r2
      exact ⟨a, b, vs, ws, by rw [ev, ew], SqL.of hh, SqL.of hh', hC _ (goes_zip hh n rr hh' n' rr')⟩
    | _ => cases hw
  | _ => cases e <;> cases hw
end
end Gc

end

section
set_option Elab.async false
set_option linter.all false
set_option maxRecDepth 100000
set_option maxHeartbeats 1000000
/-! the interpreter is sound: targets, comprehensions -/
namespace Gc
open PySem PySem.Spec L2

/-! ### targets -/
def gNames : List Nat → L2.TGs
  | [] => gNil
  | i :: r => gCons (gName i) (gNames r)
/-- a tuple or a list -/
def gSq (K : PySem.W.Frag) (n : Nat) (t : L2.TGs) : L2.TG := fun v σ H Q => gTup K n t v σ H Q ∨ gUnl K n t v σ H Q
theorem PG.or {X : Cx} {e : Expr} {g g' : L2.TG} (h : PG X e g) (h' : PG X e g') : PG X e (fun v σ H Q => g v σ H Q ∨ g' v σ H Q) := ⟨fun pins s σ H v u Q I r hw => hw.elim (fun z => h.run pins s σ H v u Q I r z) fun z => h'.run pins s σ H v u Q I r z⟩
def gOf (K : PySem.W.Frag) : Gc.TG → L2.TG
  | .one i => gName i
  | .tup is => gSq K is.length (gNames is)
def TG.slots : Gc.TG → List Nat
  | .one i => [i]
  | .tup is => is
/-- σ' is σ but for the slots is -/
def But (is : List Nat) (σ σ' : St) : Prop := σ'.length = σ.length ∧ ∀ j : Nat, j ∉ is → σ'[j]? = σ[j]?
theorem But.refl (is : List Nat) (σ : St) : But is σ σ := ⟨rfl, fun _ _ => rfl⟩
theorem But.set {is : List Nat} {σ σ' : St} {i : Nat} {v : Option V} (h : But is (σ.set i v) σ') : But (i :: is) σ σ' :=
  ⟨by rw [h.1, List.length_set], fun j hj => by
    simp only [List.mem_cons, not_or] at hj
    rw [h.2 j hj.2, List.getElem?_set_ne (fun z => hj.1 z.symm)]⟩
theorem names_read {K : PySem.W.Frag} {cl : CL} {R : RC} : ∀ {is : List Nat} {ds : List D} {vs : List V} {σ : St} {τ : List (Option D)} {s' : MS} {Q : St → Hp → Prop}, At K cl R σ τ → RepL R vs ds → setVs is ds ⟨τ, R.S⟩ = .ok () s' →
    (∀ σ', At K cl R σ' s'.τ → s'.S = R.S → But is σ σ' → Q σ' R.H) → gNames is vs σ R.H Q
  | [], ds, vs, σ, τ, s', Q, A, r, h, q => by
    cases ds with
    | nil =>
      cases h
      unfold RepL at r
      exact ⟨r, q σ A rfl (But.refl _ _)⟩
    | cons d ds => cases h
  | i :: is, ds, vs, σ, τ, s', Q, A, r, h, q => by
    cases ds with
    | nil => cases h
    | cons d ds =>
      unfold RepL at r
      obtain ⟨v, w, ev, r1, r2⟩ := r
      refine ⟨v, w, ev, ?_⟩
      show gNames is w (σ.set i (some v)) R.H Q
      exact names_read (τ := τ.set i (some d)) ⟨A.K, A.cl, A.cells, A.slots.set r1⟩ r2 h fun σ' A' e' b' => q σ' A' e' b'.set
theorem bindT_read {K : PySem.W.Frag} {cl : CL} {R : RC} {tg : Gc.TG} {d : D} {x : V} {σ : St} {τ : List (Option D)} {s' : MS} {Q : St → Hp → Prop} (A : At K cl R σ τ) (r : Rep R x d) (h : bindT tg d ⟨τ, R.S⟩ = .ok () s')
    (q : ∀ σ', At K cl R σ' s'.τ → s'.S = R.S → But tg.slots σ σ' → Q σ' R.H) : gOf K tg x σ R.H Q := by
  cases tg with
  | one i =>
    cases h
    exact q _ ⟨A.K, A.cl, A.cells, A.slots.set r⟩ rfl (But.set (But.refl _ _))
  | tup is =>
    unfold bindT at h
    dsimp only at h
    cases d with
    | tup xs =>
      dsimp only at h
      split at h
      · rename_i hl
        unfold Rep at r
        obtain ⟨a, vs, ev, hh, n, rr⟩ := r
        exact .inl ⟨a, vs, ev, SqT.of hh, by rw [rr.length]; exact hl, names_read A rr h q⟩
      · cases h
    | lst xs =>
      dsimp only at h
      split at h
      · rename_i hl
        unfold Rep at r
        obtain ⟨a, vs, ev, hh, n, rr⟩ := r
        exact .inr ⟨a, vs, ev, SqL.of hh, by rw [rr.length]; exact hl, names_read A rr h q⟩
      · cases h
    | _ => cases h
/-- a target of the text -/
def TgE (X : Cx) (e : Expr) (tg : Gc.TG) : Prop := PG X e (gOf X.K tg)
theorem tg_name {X : Cx} {i : Nat} {x : Str} {pos : Pos} (hN : X.N.Nodup) (hi : X.N[i]? = some x) (hx : Loc X.env.scope x) (hf : X.fn x = true ∨ X.env.scope.names.lookup x = some .local) : TgE X (.Name x pos) (.one i) := pg_name hN hi hx hf
/-- names, one after another -/
inductive NmE (X : Cx) : List Expr → List Nat → Prop where
  | nil : NmE X [] []
  | cons {x : Str} {pos : Pos} {i : Nat} {es : List Expr} {is : List Nat} (hi : X.N[i]? = some x) (hx : Loc X.env.scope x) (hf : X.fn x = true ∨ X.env.scope.names.lookup x = some .local) (r : NmE X es is) : NmE X (.Name x pos :: es) (i :: is)
theorem pgs_names {X : Cx} (hN : X.N.Nodup) : ∀ {es : List Expr} {is : List Nat}, NmE X es is → PGs X es (gNames is)
  | _, _, .nil => pgs_nil
  | _, _, .cons hi hx hf r => pgs_cons (pg_name hN hi hx hf) (pgs_names hN r) rfl
theorem nm_len {X : Cx} : ∀ {es : List Expr} {is : List Nat}, NmE X es is → (assignEach es X.env).length = is.length
  | _, _, .nil => rfl
  | _, _, .cons hi hx hf r => by
    show (assignEach _ X.env).length + 1 = _ + 1
    rw [nm_len r]
theorem nm_star {X : Cx} : ∀ {es : List Expr} {is : List Nat}, NmE X es is → (assignEach es X.env).findIdx? (·.1) = none
  | _, _, .nil => rfl
  | _, _, .cons (es := es) hi hx hf r => by
    have ih := nm_star r
    rw [List.findIdx?_eq_none_iff] at ih ⊢
    intro y hy
    rcases List.mem_cons.mp (show y ∈ (false, assign _ X.env) :: assignEach es X.env from hy) with e | hy
    · rw [e]
    · exact ih y hy
theorem tg_tup {X : Cx} {es : List Expr} {is : List Nat} {k : Nat} {pos : Pos} (hN : X.N.Nodup) (hc : X.calm = true) (h : NmE X es is) : TgE X (.Tuple es k pos) (.tup is) := PG.or (pg_tup hc (pgs_names hN h) (nm_len h) (nm_star h)) (pg_unl hc (pgs_names hN h) (nm_len h) (nm_star h))

/-! ### wiping -/
theorem wipe_in {σ : St} {i : Nat} : ∀ {vs : List Nat}, i ∈ vs → i < σ.length → (wipe σ vs)[i]? = some none
  | v :: vs, h, hl => by
    unfold wipe
    by_cases e : v = i
    · subst e
      exact List.getElem?_set_self (by rw [wipe_length]; exact hl)
    · rw [List.getElem?_set_ne e]
      rcases List.mem_cons.mp h with z | z
      · exact absurd z.symm e
      · exact wipe_in z hl
theorem wipe_but {σ σ' : St} {own : List Nat} {is : List Nat} (hs : ∀ i ∈ is, i ∈ own) (b : But is (wipe σ own) σ') : wipe σ' own = wipe σ own := by
  have hl : σ'.length = σ.length := by rw [b.1, wipe_length]
  apply List.ext_getElem?
  intro j
  by_cases hj : j ∈ own
  · by_cases hlt : j < σ.length
    · rw [wipe_in hj (by rw [hl]; exact hlt), wipe_in hj hlt]
    · rw [List.getElem?_eq_none (by rw [wipe_length, hl]; omega), List.getElem?_eq_none (by rw [wipe_length]; omega)]
  · rw [wipe_out hj, b.2 j fun z => hj (hs j z)]
theorem wipeT_len (τ : List (Option D)) : ∀ own : List Nat, (wipeT own τ).length = τ.length
  | [] => rfl
  | i :: r => by unfold wipeT; rw [List.length_set, wipeT_len τ r]
theorem wipeT_some {τ : List (Option D)} {i : Nat} {d : D} : ∀ {own : List Nat}, (wipeT own τ)[i]? = some (some d) → τ[i]? = some (some d) ∧ i ∉ own
  | [], h => ⟨h, by simp⟩
  | v :: vs, h => by
    unfold wipeT at h
    by_cases hi : v = i
    · subst hi
      by_cases hv : v < (wipeT vs τ).length
      · rw [List.getElem?_set_self hv] at h; cases h
      · rw [List.getElem?_eq_none (by simpa using hv)] at h; cases h
    · rw [List.getElem?_set_ne hi] at h
      obtain ⟨h1, h2⟩ := wipeT_some h
      exact ⟨h1, by simp only [List.mem_cons, not_or]; exact ⟨fun e => hi e.symm, h2⟩⟩
theorem Slots.wipe {R : RC} {σ : St} {τ : List (Option D)} (h : Slots R σ τ) (own : List Nat) : Slots R (L2.wipe σ own) (wipeT own τ) :=
  ⟨by rw [wipe_length, wipeT_len]; exact h.1, fun i d e => by
    obtain ⟨h1, h2⟩ := wipeT_some e
    obtain ⟨v, h3, h4⟩ := h.2 i d h1
    exact ⟨v, by rw [wipe_out h2]; exact h3, h4⟩⟩
theorem backT_len (τ0 τ : List (Option D)) : ∀ own : List Nat, (backT τ0 own τ).length = τ.length
  | [] => rfl
  | i :: r => by unfold backT; rw [List.length_set, backT_len τ0 τ r]
theorem backT_some {τ0 τ : List (Option D)} {i : Nat} {d : D} : ∀ {own : List Nat}, (backT τ0 own τ)[i]? = some (some d) → (i ∈ own ∧ τ0[i]? = some (some d)) ∨ (i ∉ own ∧ τ[i]? = some (some d))
  | [], h => .inr ⟨by simp, h⟩
  | v :: vs, h => by
    unfold backT at h
    by_cases hi : v = i
    · subst hi
      by_cases hv : v < (backT τ0 vs τ).length
      · rw [List.getElem?_set_self hv] at h
        refine .inl ⟨List.mem_cons_self, ?_⟩
        cases q : τ0[v]? with
        | none => rw [q] at h; cases h
        | some z => rw [q] at h; rw [show z = some d from Option.some.inj h]
      · rw [List.getElem?_eq_none (by simpa using hv)] at h; cases h
    · rw [List.getElem?_set_ne hi] at h
      rcases backT_some h with ⟨h1, h2⟩ | ⟨h1, h2⟩
      · exact .inl ⟨List.mem_cons_of_mem _ h1, h2⟩
      · exact .inr ⟨by simp only [List.mem_cons, not_or]; exact ⟨fun e => hi e.symm, h1⟩, h2⟩
theorem Slots.back {R1 R : RC} {σ : St} {τ1 τ : List (Option D)} {own : List Nat} (g : Go R1 R) (h1 : Slots R1 σ τ1) (h : Slots R (L2.wipe σ own) (wipeT own τ)) : Slots R σ (backT τ1 own τ) := by
  refine ⟨by rw [backT_len]; have := h.1; rw [wipe_length, wipeT_len] at this; exact this, fun i d e => ?_⟩
  rcases backT_some e with ⟨hi, e⟩ | ⟨hi, e⟩
  · obtain ⟨v, h3, h4⟩ := h1.2 i d e
    exact ⟨v, h3, SRep.go g h4⟩
  · have e2 : (wipeT own τ)[i]? = some (some d) := by
      have out : ∀ {own : List Nat}, i ∉ own → (wipeT own τ)[i]? = τ[i]? := by
        intro own
        induction own with
        | nil => intro _; rfl
        | cons v vs ih =>
          intro h
          simp only [List.mem_cons, not_or] at h
          unfold wipeT
          rw [List.getElem?_set_ne (fun z => h.1 z.symm)]
          exact ih h.2
      rw [out hi]
      exact e
    obtain ⟨v, h3, h4⟩ := h.2 i d e2
    exact ⟨v, by rw [wipe_out hi] at h3; exact h3, h4⟩
end Gc

end

section
set_option Elab.async false
set_option linter.all false
set_option maxRecDepth 100000
set_option maxHeartbeats 1000000
/-! the interpreter is sound: comprehensions -/
namespace Gc
open PySem PySem.Spec L2

structure Ext0 (R R' : RC) : Prop where
  K : R'.K = R.K
  cl : R'.cl = R.cl
  hp : ∀ a o, R.H a = some o → ¬ Live R.ρ R.S a → R'.H a = some o ∧ ¬ Live R'.ρ R'.S a
  len : R.S.length ≤ R'.S.length
  rho : ∀ n, n < R.S.length → R'.ρ n = R.ρ n
theorem Ext.e0 {R R' : RC} (x : Ext R R') : Ext0 R R' := ⟨x.K, x.cl, x.hp, x.len, x.rho⟩
theorem Ext0.trans {R R1 R2 : RC} (a : Ext0 R R1) (b : Ext0 R1 R2) : Ext0 R R2 :=
  ⟨b.K.trans a.K, b.cl.trans a.cl, fun c o h n => let ⟨h1, n1⟩ := a.hp c o h n; b.hp c o h1 n1, Nat.le_trans a.len b.len, fun n hn => (b.rho n (Nat.lt_of_lt_of_le hn a.len)).trans (a.rho n hn)⟩
theorem Ext0.ext {R R' : RC} (x : Ext0 R R') (h : R'.X = R.X) : Ext R R' := ⟨x.K, x.cl, h, x.hp, x.len, x.rho⟩

/-- a list at d is being made -/
def RC.hid (R : RC) (d : Addr) (vs : List V) : RC := { R with H := L2.upd R.H d (.lst vs), X := d :: R.X }
theorem hid_new {R : RC} (C : Cells R) {d : Addr} (hd : R.H d = none) : Ext0 R (R.hid d []) ∧ Go R (R.hid d []) ∧ Cells (R.hid d []) := by
  have keep : ∀ a o, R.H a = some o → (R.hid d []).H a = some o := fun a o h => by
    show L2.upd R.H d (.lst []) a = some o
    rw [upd_ne (ne_of_none h hd)]
    exact h
  have g : Go R (R.hid d []) := ⟨rfl, rfl, fun a o h n => ⟨keep a o h, n.1, fun z => by
    rcases List.mem_cons.mp z with e | z
    · rw [e, hd] at h; cases h
    · exact n.2 z⟩, Nat.le_refl _, fun _ _ => rfl⟩
  refine ⟨⟨rfl, rfl, fun a o h n => ⟨keep a o h, n⟩, Nat.le_refl _, fun _ _ => rfl⟩, g, ⟨fun n e h => ?_, C.inj, fun n e h z => ?_, fun a ha => ?_, ZOk.go g C.zok⟩⟩
  · obtain ⟨o, h1, h2⟩ := C.cell n e h
    exact ⟨o, keep _ _ h1, RepH.go g h2⟩
  · rcases List.mem_cons.mp z with e' | z
    · obtain ⟨o, h1, h2⟩ := C.cell n e h
      have h1' : R.H d = some o := by rw [← e']; exact h1
      rw [hd] at h1'
      cases h1'
    · exact C.out n e h z
  · rcases List.mem_cons.mp ha with e | ha
    · exact ⟨.lst [], by rw [e]; exact upd_same⟩
    · obtain ⟨o, h⟩ := C.dom a ha
      exact ⟨o, keep a o h⟩
/-- .. grows -/
theorem hid_grow {R : RC} (C : Cells R) {d : Addr} (hd : d ∈ R.X) (vs : List V) : Go R (R.upd d (.lst vs)) ∧ Cells (R.upd d (.lst vs)) := by
  have keep : ∀ a o, R.H a = some o → a ≠ d → (R.upd d (.lst vs)).H a = some o := fun a o h n => by
    show L2.upd R.H d (.lst vs) a = some o
    rw [upd_ne n]
    exact h
  have g : Go R (R.upd d (.lst vs)) := ⟨rfl, rfl, fun a o h n => ⟨keep a o h fun z => n.2 (by rw [z]; exact hd), n⟩, Nat.le_refl _, fun _ _ => rfl⟩
  refine ⟨g, ⟨fun n e h => ?_, C.inj, C.out, fun a ha => ?_, ZOk.go g C.zok⟩⟩
  · obtain ⟨o, h1, h2⟩ := C.cell n e h
    exact ⟨o, keep _ _ h1 fun z => C.out n e h (by rw [show R.ρ n = d from z]; exact hd), RepH.go g h2⟩
  · by_cases e : a = d
    · exact ⟨.lst vs, by rw [e]; exact upd_same⟩
    · obtain ⟨o, h⟩ := C.dom a ha
      exact ⟨o, keep a o h e⟩
theorem Cells.outL {R : RC} (C : Cells R) {d : Addr} (hd : d ∈ R.X) : ¬ Live R.ρ R.S d := fun ⟨n, e, h, q⟩ => C.out n e h (by rw [q]; exact hd)
/-- .. is done: a tree -/
def RC.unhid (R : RC) (X : List Addr) : RC := { R with X := X }
theorem unhid_ok {R : RC} (C : Cells R) {d : Addr} {X : List Addr} (hX : R.X = d :: X) : Go R (R.unhid X) ∧ Cells (R.unhid X) := by
  have sub : ∀ a, a ∈ X → a ∈ R.X := fun a h => by rw [hX]; exact List.mem_cons_of_mem _ h
  have g : Go R (R.unhid X) := ⟨rfl, rfl, fun a o h n => ⟨h, n.1, fun z => n.2 (sub a z)⟩, Nat.le_refl _, fun _ _ => rfl⟩
  exact ⟨g, ⟨fun n e h => let ⟨o, h1, h2⟩ := C.cell n e h; ⟨o, h1, RepH.go g h2⟩, C.inj, fun n e h z => C.out n e h (sub _ z), fun a ha => C.dom a (sub a ha), ZOk.go g C.zok⟩⟩
/-- .. is done: a cell -/
def RC.adopt (R : RC) (X : List Addr) (d : Addr) (e : D) : RC := { R with X := X, ρ := fun n => if n = R.S.length then d else R.ρ n, S := R.S ++ [some e] }
theorem adopt_ok {R : RC} (C : Cells R) {d : Addr} {X : List Addr} {o : HO} {e : D} (hX : R.X = d :: X) (hd : d ∉ X) (ho : R.H d = some o) (r : RepH R o e) :
    Go R (R.adopt X d e) ∧ Cells (R.adopt X d e) ∧ (∀ a, a ≠ d → ¬ Live R.ρ R.S a → ¬ Live (R.adopt X d e).ρ (R.adopt X d e).S a) := by
  have sub : ∀ a, a ∈ X → a ∈ R.X := fun a h => by rw [hX]; exact List.mem_cons_of_mem _ h
  have dX : d ∈ R.X := by rw [hX]; exact List.mem_cons_self
  have old : ∀ (n : Nat) ys, (R.S ++ [some e])[n]? = some (some ys) → (n < R.S.length ∧ R.S[n]? = some (some ys)) ∨ (n = R.S.length ∧ ys = e) := fun n ys h => by
    by_cases hlt : n < R.S.length
    · rw [List.getElem?_append_left hlt] at h
      exact .inl ⟨hlt, h⟩
    · by_cases hn : n = R.S.length
      · subst hn
        rw [List.getElem?_append_right (Nat.le_refl _), Nat.sub_self] at h
        cases h
        exact .inr ⟨rfl, rfl⟩
      · rw [List.getElem?_eq_none (by rw [List.length_append]; show R.S.length + 1 ≤ n; omega)] at h
        cases h
  have nl : ∀ a, a ≠ d → ¬ Live R.ρ R.S a → ¬ Live (R.adopt X d e).ρ (R.adopt X d e).S a := fun a ha n => by
    rintro ⟨m, z, h, q⟩
    have q : (if m = R.S.length then d else R.ρ m) = a := q
    rcases old m z h with ⟨hlt, h⟩ | ⟨hm, _⟩
    · rw [if_neg (by omega)] at q
      exact n ⟨m, z, h, q⟩
    · rw [if_pos hm] at q
      exact ha q.symm
  have g : Go R (R.adopt X d e) := ⟨rfl, rfl, fun a o h n => ⟨h, nl a (fun z => n.2 (by rw [z]; exact dX)) n.1, fun z => n.2 (sub a z)⟩, by
    show R.S.length ≤ (R.S ++ [some e]).length
    rw [List.length_append]
    omega, fun n hn => by
    show (if n = R.S.length then d else R.ρ n) = R.ρ n
    rw [if_neg (by omega)]⟩
  refine ⟨g, ⟨fun n z h => ?_, fun m n y z h1 h2 q => ?_, fun n z h => ?_, fun a ha => C.dom a (sub a ha), ZOk.go g C.zok⟩, nl⟩
  · rcases old n z h with ⟨hlt, h⟩ | ⟨hn, hz⟩
    · obtain ⟨u, h1, h2⟩ := C.cell n z h
      refine ⟨u, ?_, RepH.go g h2⟩
      show R.H (if n = R.S.length then d else R.ρ n) = some u
      rw [if_neg (by omega)]
      exact h1
    · subst hn; subst hz
      refine ⟨o, ?_, RepH.go g r⟩
      show R.H (if R.S.length = R.S.length then d else R.ρ _) = some o
      rw [if_pos rfl]
      exact ho
  · have q : (if m = R.S.length then d else R.ρ m) = (if n = R.S.length then d else R.ρ n) := q
    have nod : ∀ (n : Nat) z, R.S[n]? = some (some z) → R.ρ n ≠ d := fun n z h e => C.out n z h (by rw [e]; exact dX)
    rcases old m y h1 with ⟨a1, b1⟩ | ⟨a1, _⟩ <;> rcases old n z h2 with ⟨a2, b2⟩ | ⟨a2, _⟩
    · rw [if_neg (by omega), if_neg (by omega)] at q
      exact C.inj m n y z b1 b2 q
    · rw [if_neg (by omega), if_pos a2] at q
      exact absurd q (nod m y b1)
    · rw [if_pos a1, if_neg (by omega)] at q
      exact absurd q.symm (nod n z b2)
    · omega
  · show (if n = R.S.length then d else R.ρ n) ∉ X
    rcases old n z h with ⟨hlt, h⟩ | ⟨hn, hz⟩
    · rw [if_neg (by omega)]
      exact fun q => C.out n z h (sub _ q)
    · rw [if_pos hn]
      exact hd

theorem Go.trans {R R1 R2 : RC} (a : Go R R1) (b : Go R1 R2) : Go R R2 := ⟨b.K.trans a.K, b.cl.trans a.cl, fun c o h n => let ⟨h1, n1⟩ := a.hp c o h n; b.hp c o h1 n1, Nat.le_trans a.len b.len, fun n hn => (b.rho n (Nat.lt_of_lt_of_le hn a.len)).trans (a.rho n hn)⟩
theorem Go.refl (R : RC) : Go R R := (Ext.refl R).go
/-- between two turns: R1 the start, Rg the start of this loop -/
structure CInv (K : PySem.W.Frag) (cl : CL) (R1 Rg : RC) (σ : St) (own : List Nat) (d : Addr) (R : RC) (τ : List (Option D)) (acc : List D) : Prop where
  x : R.X = d :: R1.X
  e0 : Ext0 R1 R
  go : Go Rg R
  at_ : At K cl R (L2.wipe σ own) (wipeT own τ)
  acc : ∃ vs, R.H d = some (.lst vs) ∧ RepL R vs acc

section
variable {X : Cx} {cl : CL} {W : WX} {iter tg elt tg1 iter1 : Expr} {ifs ifs1 : List Expr} {scope : Scope} {pos : Pos} {own : List (Str × Nat)} {mi mi1 : M (List D)} {mt mt1 : M Bool} {me : M D} {tgD tgD1 : Gc.TG}
abbrev W0 : WX := fun _ _ _ _ => False
theorem bind_ok {α β : Type} {m : M α} {f : α → M β} {s s' : MS} {b : β} (h : M.bind m f s = .ok b s') : ∃ a s1, m s = .ok a s1 ∧ f a s1 = .ok b s' := by
  unfold M.bind at h
  cases q : m s with
  | bad => rw [q] at h; cases h
  | exn c ns xs z => rw [q] at h; cases h
  | ok a s1 => rw [q] at h; exact ⟨a, s1, rfl, h⟩
theorem noX_ok {α : Type} {m : M α} {s s' : MS} {b : α} (h : noX m s = .ok b s') : m s = .ok b s' := by
  unfold noX at h
  cases q : m s with
  | bad => rw [q] at h; cases h
  | exn c ns xs z => rw [q] at h; cases h
  | ok a s1 => rw [q] at h; exact h
theorem turn_inv {own : List Nat} {d : D} {s s' : MS} {o : Option D} (h : turnM own tgD mt me d s = .ok o s') : ∃ s1 k s2, bindT tgD d ⟨wipeT own s.τ, s.S⟩ = .ok () s1 ∧ mt s1 = .ok k s2 ∧ ((k = false ∧ o = none ∧ s' = s2) ∨ (k = true ∧ ∃ y, me s2 = .ok y s' ∧ o = some y)) := by
  obtain ⟨_, s1, h1, h2⟩ := bind_ok (noX_ok h)
  obtain ⟨k, s2, h3, h4⟩ := bind_ok h2
  refine ⟨s1, k, s2, h1, h3, ?_⟩
  cases k with
  | false => cases h4; exact .inl ⟨rfl, rfl, rfl⟩
  | true =>
    obtain ⟨y, s3, h5, h6⟩ := bind_ok (show M.bind me (fun y => M.pure (some y)) s2 = .ok o s' from h4)
    cases h6
    exact .inr ⟨rfl, y, h5, rfl⟩
theorem notSet_folded {e : Expr} (h : notSet e = true) (env : Env) (x : Value) : foldedSetIterable e env x = pure x := by
  cases e <;> first | rfl | cases h
theorem comp_cons {turn : D → M (Option D)} {acc : List D} {x : D} {rest xs : List D} {s s2 : MS} (h : compL turn acc (x :: rest) s = .ok xs s2) : ∃ o s1, turn x s = .ok o s1 ∧ ((o = none ∧ compL turn acc rest s1 = .ok xs s2) ∨ ∃ y, o = some y ∧ acc.length < sizeLine ∧ compL turn (acc ++ [y]) rest s1 = .ok xs s2) := by
  unfold compL M.bind at h
  cases q : turn x s with
  | bad => rw [q] at h; cases h
  | exn c ns zs z => rw [q] at h; cases h
  | ok o s1 =>
    rw [q] at h
    dsimp only at h
    refine ⟨o, s1, rfl, ?_⟩
    cases o with
    | none => exact .inl ⟨rfl, h⟩
    | some y =>
      dsimp only at h
      split at h
      · exact .inr ⟨y, rfl, by assumption, h⟩
      · cases h

/-- one turn -/
theorem turn_read {σ : St} {ow : List Nat} {R1 Rg R2 R3 : RC} {dd : Addr} {τ2 : List (Option D)} {acc : List D} {o : Option D} {s3 : MS} {x : V} {d : D} {Nx : Hp → Prop} (hdd : R1.H dd = none) (hsub : ∀ i ∈ tgD.slots, i ∈ ow)
    (I : CInv X.K cl R1 Rg σ ow dd R2 τ2 acc) (x3 : Ext R2 R3) (eS : R3.S = R2.S) (C3 : Cells R3) (r3 : Rep R3 x d) (tr : turnM ow tgD mt me d ⟨τ2, R2.S⟩ = .ok o s3)
    (n0 : o = none → ∀ R4, CInv X.K cl R1 Rg σ ow dd R4 s3.τ acc → R4.S = s3.S → Nx R4.H)
    (n1 : ∀ y, o = some y → acc.length < sizeLine ∧ ∀ R4, CInv X.K cl R1 Rg σ ow dd R4 s3.τ (acc ++ [y]) → R4.S = s3.S → Nx R4.H) :
    gOf X.K tgD x (L2.wipe σ ow) R3.H fun σ2 H2 => L2.wipe σ2 ow = L2.wipe σ ow ∧ rd relB X.K cl W0 mt σ2 H2 fun b H3 =>
      if b = true then rd relD X.K cl W0 me σ2 H3 fun y H4 => ∃ acc, H4 dd = some (.lst acc) ∧ acc.length < sizeLine ∧ Nx (L2.upd H4 dd (.lst (acc ++ [y]))) else Nx H3 := by
  obtain ⟨s4, k, s5, hb, hmt, hk⟩ := turn_inv tr
  have ddX2 : dd ∈ R2.X := by rw [I.x]; exact List.mem_cons_self
  have A3 : At X.K cl R3 (L2.wipe σ ow) (wipeT ow τ2) := ⟨x3.K.trans I.at_.K, x3.cl.trans I.at_.cl, C3, I.at_.slots.ext x3⟩
  refine bindT_read (R := R3) A3 r3 (by rw [eS]; exact hb) fun σ4 A4 e4 but => ⟨wipe_but hsub but, ?_⟩
  have wσ : L2.wipe σ4 ow = L2.wipe σ ow := wipe_but hsub but
  have s4e : s4 = ⟨s4.τ, R3.S⟩ := by rw [← e4]
  have later : ∀ {R5 : RC} {τ5 : List (Option D)}, Ext R3 R5 → At X.K cl R5 σ4 τ5 → CInv X.K cl R1 Rg σ ow dd R5 τ5 acc := fun {R5 τ5} x5 A5 => by
    obtain ⟨vs, hv, rv⟩ := I.acc
    have x25 := x3.trans x5
    refine ⟨x25.X.trans I.x, I.e0.trans x25.e0, I.go.trans x25.go, ⟨A5.K, A5.cl, A5.cells, ?_⟩, vs, (x25.hp _ _ hv (I.at_.cells.outL ddX2)).1, RepL.ext x25 rv⟩
    rw [← wσ]
    exact A5.slots.wipe ow
  refine ⟨R3, s4.τ, rfl, A4, ?_⟩
  unfold rdAt
  rw [← s4e, hmt]
  dsimp only
  intro b R5 x5 e5 A5 eb
  subst eb
  rcases hk with ⟨ek, eo, es3⟩ | ⟨ek, y, hme, eo⟩
  · subst ek eo es3
    rw [if_neg Bool.false_ne_true]
    exact n0 rfl R5 (later x5 A5) e5
  · subst ek eo
    rw [if_pos rfl]
    refine ⟨R5, s5.τ, rfl, A5, ?_⟩
    unfold rdAt
    have : (⟨s5.τ, R5.S⟩ : MS) = s5 := by rw [e5]
    rw [this, hme]
    dsimp only
    intro v R6 x6 e6 A6 r6
    have I6 := later (x5.trans x6) A6
    obtain ⟨vs, hv, rv⟩ := I6.acc
    obtain ⟨hlen, n1⟩ := n1 y rfl
    have ddX6 : dd ∈ R6.X := by rw [I6.x]; exact List.mem_cons_self
    obtain ⟨g7, C7⟩ := hid_grow I6.at_.cells ddX6 (vs ++ [v])
    refine ⟨vs, hv, by rw [rv.length]; exact hlen, n1 (R6.upd dd (.lst (vs ++ [v]))) ⟨I6.x, ⟨I6.e0.K, I6.e0.cl, fun a o h n => ?_, I6.e0.len, I6.e0.rho⟩, I6.go.trans g7, ⟨I6.at_.K, I6.at_.cl, C7, I6.at_.slots.go g7⟩, vs ++ [v], upd_same, ?_⟩ e6⟩
    · obtain ⟨h1, n1⟩ := I6.e0.hp a o h n
      refine ⟨?_, n1⟩
      show L2.upd R6.H dd (.lst (vs ++ [v])) a = some o
      rw [upd_ne (ne_of_none h hdd)]
      exact h1
    · exact RepL.go g7 _ _ (rv.append (RepL.cons r6 RepL.nil))
/-- a whole loop -/
def loopR (J : It) (g : L2.TG) (tt : TT) (te : TE) (ws : St) (vs : List Nat) (dd : Addr) (H1 : Hp) (Nx0 : Hp → Prop) : Prop := ∃ W : Nat → Nat → Hp → Prop, (∃ m, W 0 m H1) ∧ ∀ i m H, W i m H →
  (J.stop i H ∧ Nx0 H) ∨ (J.go i H ∧ ∃ Nx : Hp → Prop, (∀ H', Nx H' → ∃ m', m' < m ∧ W (i + 1) m' H') ∧ ∀ x H', J.yld i H x H' → g x ws H' fun σ2 H2 => L2.wipe σ2 vs = ws ∧ tt σ2 H2 fun b H3 =>
    if b = true then te σ2 H3 fun y H4 => ∃ acc, H4 dd = some (.lst acc) ∧ acc.length < sizeLine ∧ Nx (L2.upd H4 dd (.lst (acc ++ [y]))) else Nx H3)
theorem loop_read {σ : St} {ow : List Nat} {R1 Rg R0 : RC} {dd : Addr} {τ0 : List (Option D)} {acc0 : List D} {src xs : List D} {s2 : MS} {J : It} {Nx0 : Hp → Prop} (hdd : R1.H dd = none) (hsub : ∀ i ∈ tgD.slots, i ∈ ow)
    (goes : Goes J Rg src) (I0 : CInv X.K cl R1 Rg σ ow dd R0 τ0 acc0) (run : compL (turnM ow tgD mt me) acc0 src ⟨τ0, R0.S⟩ = .ok xs s2)
    (fin : ∀ R2, CInv X.K cl R1 Rg σ ow dd R2 s2.τ xs → R2.S = s2.S → Nx0 R2.H) :
    loopR J (gOf X.K tgD) (rd relB X.K cl W0 mt) (rd relD X.K cl W0 me) (L2.wipe σ ow) ow dd R0.H Nx0 := by
  refine ⟨fun i m H => m = src.length - i ∧ i ≤ src.length ∧ ∃ R2 τ2 acc, R2.H = H ∧ CInv X.K cl R1 Rg σ ow dd R2 τ2 acc ∧ compL (turnM ow tgD mt me) acc (src.drop i) ⟨τ2, R2.S⟩ = .ok xs s2,
    ⟨src.length, by simp, Nat.zero_le _, R0, τ0, acc0, rfl, I0, by rw [List.drop_zero]; exact run⟩, ?_⟩
  rintro i m H ⟨rfl, hil, R2, τ2, acc, hH2, I, run⟩
  subst hH2
  obtain ⟨hgo, hstop⟩ := goes R2 I.go I.at_.cells i
  by_cases hlt : i < src.length
  · have hd : src[i]? = some src[i] := List.getElem?_eq_getElem hlt
    obtain ⟨go, yld⟩ := hgo _ hd
    rw [List.drop_eq_getElem_cons hlt] at run
    obtain ⟨o, s3, tr, rest⟩ := comp_cons run
    refine .inr ⟨go, fun H' => ∃ R4 τ4 acc4, R4.H = H' ∧ CInv X.K cl R1 Rg σ ow dd R4 τ4 acc4 ∧ compL (turnM ow tgD mt me) acc4 (src.drop (i + 1)) ⟨τ4, R4.S⟩ = .ok xs s2, fun H' ⟨R4, τ4, acc4, z1, z2, z3⟩ => ⟨src.length - (i + 1), by omega, rfl, hlt, R4, τ4, acc4, z1, z2, z3⟩, fun x H' y => ?_⟩
    obtain ⟨R3, eH, x3, eS, C3, r3⟩ := yld x H' y
    subst eH
    have st : ∀ {R4 : RC}, R4.S = s3.S → (⟨s3.τ, R4.S⟩ : MS) = s3 := fun {R4} e => by rw [e]
    refine turn_read hdd hsub I x3 eS C3 r3 tr (fun eo R4 I4 e4 => ?_) fun y eo => ?_
    · rcases rest with ⟨_, rest⟩ | ⟨y, hy, _⟩
      · exact ⟨R4, s3.τ, acc, rfl, I4, by rw [st e4]; exact rest⟩
      · rw [eo] at hy; cases hy
    · rcases rest with ⟨hy, _⟩ | ⟨y', hy, hlen, rest⟩
      · rw [eo] at hy; cases hy
      · rw [eo] at hy
        cases hy
        exact ⟨hlen, fun R4 I4 e4 => ⟨R4, s3.τ, acc ++ [y], rfl, I4, by rw [st e4]; exact rest⟩⟩
  · have ei : i = src.length := by omega
    subst ei
    rw [List.drop_length] at run
    have run' : (Rs.ok acc ⟨τ2, R2.S⟩ : Rs (List D)) = .ok xs s2 := run
    cases run'
    exact .inl ⟨hstop (Nat.le_refl _), fin R2 I rfl⟩
/-- the list is handed over: a tree, or a cell -/
theorem lc_done {σ : St} {ow : List Nat} {R R1 R2 : RC} {dd : Addr} {τ1 : List (Option D)} {s2 : MS} {xs : List D} {md : Nat} {Q : VK} (hdd : R1.H dd = none) (x1 : Ext R R1) (A1 : At X.K cl R1 σ τ1)
    (I : CInv X.K cl R1 R1 σ ow dd R2 s2.τ xs) (e2 : R2.S = s2.S)
    (h0 : md = 0 → ∀ b R', Ext R R' → R'.S = s2.S → At X.K cl R' σ (backT τ1 ow s2.τ) → Rep R' b (.lst xs) → Q b R'.H)
    (h1 : md ≠ 0 → ∀ b R', Ext R R' → R'.S = s2.S ++ [some (.lst xs)] → At X.K cl R' σ (backT τ1 ow s2.τ) → Rep R' b (.ref s2.S.length) → Q b R'.H) : Q (.ref dd) R2.H := by
  obtain ⟨vs, hv, rv⟩ := I.acc
  have ddX : dd ∉ R1.X := (A1.cells.nl hdd).2
  by_cases hm : md = 0
  · have h := h0 hm
    obtain ⟨g, C⟩ := unhid_ok I.at_.cells I.x
    have xx : Ext R1 (R2.unhid R1.X) := Ext0.ext ⟨I.e0.K, I.e0.cl, I.e0.hp, I.e0.len, I.e0.rho⟩ rfl
    refine h (.ref dd) (R2.unhid R1.X) (x1.trans xx) e2 ⟨xx.K.trans A1.K, xx.cl.trans A1.cl, C, ?_⟩ ?_
    · exact Slots.back xx.go A1.slots (I.at_.slots.go g)
    · show Rep (R2.unhid R1.X) (.ref dd) (.lst xs)
      unfold Rep
      exact ⟨dd, vs, rfl, hv, ⟨I.at_.cells.outL (by rw [I.x]; exact List.mem_cons_self), ddX⟩, RepL.go g _ _ rv⟩
  · have h := h1 hm
    have rH : RepH R2 (.lst vs) (.lst xs) := ⟨vs, rfl, rv⟩
    obtain ⟨g, C, nl⟩ := adopt_ok I.at_.cells I.x ddX hv rH
    have xx : Ext R1 (R2.adopt R1.X dd (.lst xs)) := Ext0.ext ⟨I.e0.K, I.e0.cl, fun a o h n => by
      obtain ⟨h1, n1⟩ := I.e0.hp a o h n
      exact ⟨h1, nl a (ne_of_none h hdd) n1⟩, Nat.le_trans I.e0.len g.len, fun n hn => (g.rho n (Nat.lt_of_lt_of_le hn I.e0.len)).trans (I.e0.rho n hn)⟩ rfl
    rw [← e2] at h
    refine h (.ref dd) (R2.adopt R1.X dd (.lst xs)) (x1.trans xx) rfl ⟨xx.K.trans A1.K, xx.cl.trans A1.cl, C, ?_⟩ ?_
    · exact Slots.back xx.go A1.slots (I.at_.slots.go g)
    · show Rep (R2.adopt R1.X dd (.lst xs)) (.ref dd) (.ref R2.S.length)
      unfold Rep
      refine ⟨?_, ?_⟩
      · show V.ref dd = V.ref (if R2.S.length = R2.S.length then dd else R2.ρ _)
        rw [if_pos rfl]
      · show R2.S.length < (R2.S ++ [some (D.lst xs)]).length
        rw [List.length_append]
        show R2.S.length < R2.S.length + 1
        omega
theorem CInv.start {σ : St} {ow : List Nat} {R1 : RC} {dd : Addr} {τ : List (Option D)} (A1 : At X.K cl R1 σ τ) (hdd : R1.H dd = none) : CInv X.K cl R1 R1 σ ow dd (R1.hid dd []) τ [] := by
  obtain ⟨e0, g0, C0⟩ := hid_new A1.cells hdd
  exact ⟨rfl, e0, g0, ⟨A1.K, A1.cl, C0, (A1.slots.wipe ow).go g0⟩, [], upd_same, RepL.nil⟩
/-- the reading -/
theorem lc_read {md : Nat} {ow : List Nat} (hsub : ∀ i ∈ tgD.slots, i ∈ ow) {σ : St} {H : Hp} {Q : VK} (h : rd relD X.K cl W (lcM ow tgD md mi mt me) σ H Q) :
    tLc (rdI X.K cl W mi) (gOf X.K tgD) (rd relB X.K cl W0 mt) (rd relD X.K cl W0 me) ow σ H Q := by
  obtain ⟨R, τ, hH, A, h⟩ := h
  refine ⟨R, τ, hH, A, ?_⟩
  unfold rdAt lcM M.bind at h
  cases q : mi ⟨τ, R.S⟩ with
  | bad => rw [q] at h; exact h
  | exn c ns xs s => rw [q] at h; exact h
  | ok src s =>
    rw [q] at h
    dsimp only at h ⊢
    intro J R1 x1 e1 A1 goes dd hdd
    have es : s = ⟨s.τ, R1.S⟩ := by rw [e1]
    unfold block at h
    cases q2 : compL (turnM ow tgD mt me) [] src s with
    | bad => rw [q2] at h; exact h.elim
    | exn c ns xs z => rw [q2] at h; exact h.elim
    | ok xs s2 =>
      rw [q2] at h
      dsimp only at h
      refine loop_read hdd hsub goes (CInv.start A1 hdd) (by rw [show (R1.hid dd []).S = R1.S from rfl, ← es]; exact q2) fun R2 I e2 => lc_done (md := md) hdd x1 A1 I e2 (fun hm => ?_) fun hm => ?_
      · unfold new at h; rw [if_pos hm] at h; exact h
      · unfold new at h; rw [if_neg hm] at h; exact h
theorem se_lc {md : Nat} (hc : X.calm = true) (hN : X.N.Nodup) (hi : SI X cl W tg iter mi) (ok : BlkOk X.N X.env.scope scope own) (hset : notSet iter = true)
    (htg : ∀ (s : Shared) (H : Hp) (C : Addr) (cll : List (Str × Addr)) (fp : List Addr), TgE (X.blk s H scope (compEnvC scope cll C X.env) fp) tg tgD) (hsub : ∀ i ∈ tgD.slots, i ∈ own.map (·.2))
    (ht : ∀ (s : Shared) (H : Hp) (C : Addr) (cll : List (Str × Addr)) (fp : List Addr), PTs (X.blk s H scope (compEnvC scope cll C X.env) fp) ifs (rd relB X.K cl W0 mt))
    (he : ∀ (s : Shared) (H : Hp) (C : Addr) (cll : List (Str × Addr)) (fp : List Addr), SE (X.blk s H scope (compEnvC scope cll C X.env) fp) cl W0 elt me) :
    SE X cl W (.ListComp elt [⟨tg, iter, ifs, 0⟩] scope pos) (lcM (own.map (·.2)) tgD md mi mt me) :=
  PE.weak (pe_lc (g := gOf X.K tgD) (te := rd relD X.K cl W0 me) hc hN hi ok htg ht he (fun x => notSet_folded hset _ x)) fun σ H Q h => lc_read hsub h
end
end Gc

end

section
set_option Elab.async false
set_option linter.all false
set_option maxRecDepth 100000
set_option maxHeartbeats 1000000
/-! the interpreter is sound: comprehensions with two clauses; tests -/
namespace Gc
open PySem PySem.Spec L2

theorem wipe_wipe {σ : St} {own own1 : List Nat} (h : ∀ i ∈ own1, i ∈ own) : wipe (wipe σ own1) own = wipe σ own := by
  apply List.ext_getElem?
  intro j
  by_cases hj : j ∈ own
  · by_cases hlt : j < σ.length
    · rw [wipe_in hj (by rw [wipe_length]; exact hlt), wipe_in hj hlt]
    · rw [List.getElem?_eq_none (by rw [wipe_length, wipe_length]; omega), List.getElem?_eq_none (by rw [wipe_length]; omega)]
  · rw [wipe_out hj, wipe_out hj, wipe_out fun z => hj (h j z)]
theorem wipeT_in {τ : List (Option D)} {i : Nat} : ∀ {vs : List Nat}, i ∈ vs → i < τ.length → (wipeT vs τ)[i]? = some none
  | v :: vs, h, hl => by
    unfold wipeT
    by_cases e : v = i
    · subst e
      exact List.getElem?_set_self (by rw [wipeT_len]; exact hl)
    · rw [List.getElem?_set_ne e]
      rcases List.mem_cons.mp h with z | z
      · exact absurd z.symm e
      · exact wipeT_in z hl
theorem wipeT_out {τ : List (Option D)} {i : Nat} : ∀ {vs : List Nat}, i ∉ vs → (wipeT vs τ)[i]? = τ[i]?
  | [], _ => rfl
  | v :: vs, h => by
    simp only [List.mem_cons, not_or] at h
    unfold wipeT
    rw [List.getElem?_set_ne (fun z => h.1 z.symm)]
    exact wipeT_out h.2
theorem wipeT_wipeT {τ : List (Option D)} {own own1 : List Nat} (h : ∀ i ∈ own1, i ∈ own) : wipeT own (wipeT own1 τ) = wipeT own τ := by
  apply List.ext_getElem?
  intro j
  by_cases hj : j ∈ own
  · by_cases hlt : j < τ.length
    · rw [wipeT_in hj (by rw [wipeT_len]; exact hlt), wipeT_in hj hlt]
    · rw [List.getElem?_eq_none (by rw [wipeT_len, wipeT_len]; omega), List.getElem?_eq_none (by rw [wipeT_len]; omega)]
  · rw [wipeT_out hj, wipeT_out hj, wipeT_out fun z => hj (h j z)]

section
variable {X : Cx} {cl : CL} {W : WX} {iter tg elt tg1 iter1 : Expr} {ifs ifs1 : List Expr} {scope : Scope} {pos : Pos} {own : List (Str × Nat)} {mi mi1 : M (List D)} {mt mt1 : M Bool} {me : M D} {tgD tgD1 : Gc.TG}
theorem turn2_inv {ow ow1 : List Nat} {acc acc' : List D} {d : D} {s s' : MS} (h : turn2M ow tgD mt mi1 ow1 tgD1 mt1 me acc d s = .ok acc' s') :
    ∃ s1 k s2, bindT tgD d ⟨wipeT ow s.τ, s.S⟩ = .ok () s1 ∧ mt s1 = .ok k s2 ∧ ((k = false ∧ acc' = acc ∧ s' = s2) ∨ (k = true ∧ ∃ src s3, mi1 s2 = .ok src s3 ∧ compL (turnM ow1 tgD1 mt1 me) acc src s3 = .ok acc' s')) := by
  obtain ⟨_, s1, h1, h2⟩ := bind_ok (noX_ok h)
  obtain ⟨k, s2, h3, h4⟩ := bind_ok h2
  refine ⟨s1, k, s2, h1, h3, ?_⟩
  cases k with
  | false => cases h4; exact .inl ⟨rfl, rfl, rfl⟩
  | true =>
    obtain ⟨src, s3, h5, h6⟩ := bind_ok (show M.bind mi1 (fun src => compL (turnM ow1 tgD1 mt1 me) acc src) s2 = .ok acc' s' from h4)
    exact .inr ⟨rfl, src, s3, h5, h6⟩
theorem fold_cons {step : List D → D → M (List D)} {acc : List D} {x : D} {rest xs : List D} {s s2 : MS} (h : foldL step acc (x :: rest) s = .ok xs s2) : ∃ acc1 s1, step acc x s = .ok acc1 s1 ∧ foldL step acc1 rest s1 = .ok xs s2 := bind_ok h
theorem lc2_read {md : Nat} {ow ow1 : List Nat} (hsub : ∀ i ∈ tgD.slots, i ∈ ow) (hsub1 : ∀ i ∈ tgD1.slots, i ∈ ow1) (ho : ∀ i ∈ ow1, i ∈ ow) {σ : St} {H : Hp} {Q : VK} (h : rd relD X.K cl W (lc2M ow tgD md mi mt mi1 ow1 tgD1 mt1 me) σ H Q) :
    tLc2 (rdI X.K cl W mi) (gOf X.K tgD) (rd relB X.K cl W0 mt) (rdI X.K cl W0 mi1) (gOf X.K tgD1) (rd relB X.K cl W0 mt1) (rd relD X.K cl W0 me) ow ow1 σ H Q := by
  obtain ⟨R, τ, hH, A, h⟩ := h
  refine ⟨R, τ, hH, A, ?_⟩
  unfold rdAt lc2M M.bind at h
  cases q : mi ⟨τ, R.S⟩ with
  | bad => rw [q] at h; exact h
  | exn c ns xs s => rw [q] at h; exact h
  | ok src s =>
    rw [q] at h
    dsimp only at h ⊢
    intro J R1 x1 e1 A1 goes dd hdd
    have es : s = ⟨s.τ, R1.S⟩ := by rw [e1]
    unfold block at h
    cases q2 : foldL (turn2M ow tgD mt mi1 ow1 tgD1 mt1 me) [] src s with
    | bad => rw [q2] at h; exact h.elim
    | exn c ns xs z => rw [q2] at h; exact h.elim
    | ok xs s2 =>
      rw [q2] at h
      dsimp only at h
      refine ⟨fun i m H => m = src.length - i ∧ i ≤ src.length ∧ ∃ R2 τ2 acc, R2.H = H ∧ CInv X.K cl R1 R1 σ ow dd R2 τ2 acc ∧ foldL (turn2M ow tgD mt mi1 ow1 tgD1 mt1 me) acc (src.drop i) ⟨τ2, R2.S⟩ = .ok xs s2,
        ⟨src.length, by simp, Nat.zero_le _, R1.hid dd [], s.τ, [], rfl, CInv.start A1 hdd, by rw [List.drop_zero, show (R1.hid dd []).S = R1.S from rfl, ← es]; exact q2⟩, ?_⟩
      rintro i m H ⟨rfl, hil, R2, τ2, acc, hH2, I, run⟩
      subst hH2
      obtain ⟨hgo, hstop⟩ := goes R2 I.go I.at_.cells i
      by_cases hlt : i < src.length
      · have hd : src[i]? = some src[i] := List.getElem?_eq_getElem hlt
        obtain ⟨go, yld⟩ := hgo _ hd
        rw [List.drop_eq_getElem_cons hlt] at run
        obtain ⟨acc1, s3, tr, rest⟩ := fold_cons run
        obtain ⟨s4, k, s5, hb, hmt, hk⟩ := turn2_inv tr
        refine .inr ⟨go, fun H' => ∃ R4 τ4 acc4, R4.H = H' ∧ CInv X.K cl R1 R1 σ ow dd R4 τ4 acc4 ∧ foldL (turn2M ow tgD mt mi1 ow1 tgD1 mt1 me) acc4 (src.drop (i + 1)) ⟨τ4, R4.S⟩ = .ok xs s2, fun H' ⟨R4, τ4, acc4, z1, z2, z3⟩ => ⟨src.length - (i + 1), by omega, rfl, hlt, R4, τ4, acc4, z1, z2, z3⟩, fun x H' y => ?_⟩
        obtain ⟨R3, eH, x3, eS, C3, r3⟩ := yld x H' y
        subst eH
        have ddX2 : dd ∈ R2.X := by rw [I.x]; exact List.mem_cons_self
        have A3 : At X.K cl R3 (L2.wipe σ ow) (wipeT ow τ2) := ⟨x3.K.trans I.at_.K, x3.cl.trans I.at_.cl, C3, I.at_.slots.ext x3⟩
        refine bindT_read (R := R3) A3 r3 (by rw [eS]; exact hb) fun σ4 A4 e4 but => ⟨wipe_but hsub but, ?_⟩
        have wσ : L2.wipe σ4 ow = L2.wipe σ ow := wipe_but hsub but
        have s4e : s4 = ⟨s4.τ, R3.S⟩ := by rw [← e4]
        refine ⟨R3, s4.τ, rfl, A4, ?_⟩
        unfold rdAt
        rw [← s4e, hmt]
        dsimp only
        intro b R5 x5 e5 A5 eb
        subst eb
        have x25 := x3.trans x5
        obtain ⟨vs, hv, rv⟩ := I.acc
        rcases hk with ⟨ek, ea, es3⟩ | ⟨ek, src1, s6, hmi, hin⟩
        · subst ek ea es3
          rw [if_neg Bool.false_ne_true]
          refine ⟨R5, s3.τ, acc1, rfl, ⟨x25.X.trans I.x, I.e0.trans x25.e0, I.go.trans x25.go, ⟨A5.K, A5.cl, A5.cells, ?_⟩, vs, (x25.hp _ _ hv (I.at_.cells.outL ddX2)).1, RepL.ext x25 rv⟩, ?_⟩
          · rw [← wσ]
            exact A5.slots.wipe ow
          · have : (⟨s3.τ, R5.S⟩ : MS) = s3 := by rw [e5]
            rw [this]
            exact rest
        · subst ek
          rw [if_pos rfl]
          refine ⟨R5, s5.τ, rfl, A5, ?_⟩
          have : (⟨s5.τ, R5.S⟩ : MS) = s5 := by rw [e5]
          rw [this, hmi]
          dsimp only
          intro J1 R6 x6 e6 A6 goes1
          have x26 := x25.trans x6
          have I6 : CInv X.K cl R1 R6 σ4 ow1 dd R6 s6.τ acc := ⟨x26.X.trans I.x, I.e0.trans x26.e0, Go.refl R6, ⟨A6.K, A6.cl, A6.cells, A6.slots.wipe ow1⟩, vs, (x26.hp _ _ hv (I.at_.cells.outL ddX2)).1, RepL.ext x26 rv⟩
          refine loop_read hdd hsub1 goes1 I6 (by rw [show (⟨s6.τ, R6.S⟩ : MS) = s6 from by rw [e6]]; exact hin) fun R7 I7 e7 => ?_
          refine ⟨R7, s3.τ, acc1, rfl, ⟨I7.x, I7.e0, (I.go.trans x26.go).trans I7.go, ⟨I7.at_.K, I7.at_.cl, I7.at_.cells, ?_⟩, I7.acc⟩, ?_⟩
          · have z := I7.at_.slots.wipe ow
            rw [wipe_wipe ho, wipeT_wipeT ho, wσ] at z
            exact z
          · rw [show (⟨s3.τ, R7.S⟩ : MS) = s3 from by rw [e7]]
            exact rest
      · have ei : i = src.length := by omega
        subst ei
        rw [List.drop_length] at run
        have run' : (Rs.ok acc ⟨τ2, R2.S⟩ : Rs (List D)) = .ok xs s2 := run
        cases run'
        refine .inl ⟨hstop (Nat.le_refl _), lc_done (md := md) (s2 := ⟨τ2, R2.S⟩) hdd x1 A1 I rfl (fun hm => ?_) fun hm => ?_⟩
        · unfold new at h; rw [if_pos hm] at h; exact h
        · unfold new at h; rw [if_neg hm] at h; exact h
theorem se_lc2 {md : Nat} {ow1 : List Nat} (hc : X.calm = true) (hN : X.N.Nodup) (hi : SI X cl W tg iter mi) (ok : BlkOk X.N X.env.scope scope own) (hset : notSet iter = true) (hset1 : notSet iter1 = true) (ho : ∀ i ∈ ow1, i ∈ own.map (·.2))
    (htg : ∀ (s : Shared) (H : Hp) (C : Addr) (cll : List (Str × Addr)) (fp : List Addr), TgE (X.blk s H scope (compEnvC scope cll C X.env) fp) tg tgD) (hsub : ∀ i ∈ tgD.slots, i ∈ own.map (·.2))
    (ht : ∀ (s : Shared) (H : Hp) (C : Addr) (cll : List (Str × Addr)) (fp : List Addr), PTs (X.blk s H scope (compEnvC scope cll C X.env) fp) ifs (rd relB X.K cl W0 mt))
    (hi1 : ∀ (s : Shared) (H : Hp) (C : Addr) (cll : List (Str × Addr)) (fp : List Addr), SI (X.blk s H scope (compEnvC scope cll C X.env) fp) cl W0 tg1 iter1 mi1)
    (htg1 : ∀ (s : Shared) (H : Hp) (C : Addr) (cll : List (Str × Addr)) (fp : List Addr), TgE (X.blk s H scope (compEnvC scope cll C X.env) fp) tg1 tgD1) (hsub1 : ∀ i ∈ tgD1.slots, i ∈ ow1)
    (ht1 : ∀ (s : Shared) (H : Hp) (C : Addr) (cll : List (Str × Addr)) (fp : List Addr), PTs (X.blk s H scope (compEnvC scope cll C X.env) fp) ifs1 (rd relB X.K cl W0 mt1))
    (he : ∀ (s : Shared) (H : Hp) (C : Addr) (cll : List (Str × Addr)) (fp : List Addr), SE (X.blk s H scope (compEnvC scope cll C X.env) fp) cl W0 elt me) :
    SE X cl W (.ListComp elt [⟨tg, iter, ifs, 0⟩, ⟨tg1, iter1, ifs1, 0⟩] scope pos) (lc2M (own.map (·.2)) tgD md mi mt mi1 ow1 tgD1 mt1 me) :=
  PE.weak (pe_lc2 (g := gOf X.K tgD) (g1 := gOf X.K tgD1) (wi1 := rdI X.K cl W0 mi1) (te := rd relD X.K cl W0 me) hc hN hi ok ho htg ht hi1 htg1 ht1 he (fun x => notSet_folded hset _ x) (fun env x => notSet_folded hset1 env x)) fun σ H Q h => lc2_read hsub hsub1 ho h
/-- tests -/
theorem PTs.weak {X : Cx} {es : List Expr} {t t' : TT} (h : PTs X es t) (w : ∀ σ H Q, t' σ H Q → t σ H Q) : PTs X es t' := ⟨fun pins s σ H Q I hh => h.run pins s σ H Q I (w σ H Q hh)⟩
theorem ts_nil : PTs X [] (rd relB X.K cl W (M.pure true)) := PTs.weak pts_nil fun σ H Q ⟨R, τ, hH, A, h⟩ => by subst hH; exact rdAt_pure h A rfl
theorem ts_one {c : Expr} (h : ST X cl W c mt) : PTs X [c] (rd relB X.K cl W mt) := pts_one h
end
end Gc

end

section
set_option Elab.async false
set_option linter.all false
set_option maxRecDepth 100000
set_option maxHeartbeats 1000000
/-! the interpreter is sound: displays of dicts -/
namespace Gc
open PySem PySem.Spec L2
/-- an object at p is being made -/
def RC.hidO (R : RC) (p : Addr) (o : HO) : RC := { R with H := L2.upd R.H p o, X := p :: R.X }
theorem hidO_new {R : RC} (C : Cells R) {d : Addr} {o0 : HO} (hd : R.H d = none) : Ext0 R (R.hidO d o0) ∧ Go R (R.hidO d o0) ∧ Cells (R.hidO d o0) := by
  have keep : ∀ a o, R.H a = some o → (R.hidO d o0).H a = some o := fun a o h => by
    show L2.upd R.H d o0 a = some o
    rw [upd_ne (ne_of_none h hd)]
    exact h
  have g : Go R (R.hidO d o0) := ⟨rfl, rfl, fun a o h n => ⟨keep a o h, n.1, fun z => by
    rcases List.mem_cons.mp z with e | z
    · rw [e, hd] at h; cases h
    · exact n.2 z⟩, Nat.le_refl _, fun _ _ => rfl⟩
  refine ⟨⟨rfl, rfl, fun a o h n => ⟨keep a o h, n⟩, Nat.le_refl _, fun _ _ => rfl⟩, g, ⟨fun n e h => ?_, C.inj, fun n e h z => ?_, fun a ha => ?_, ZOk.go g C.zok⟩⟩
  · obtain ⟨o, h1, h2⟩ := C.cell n e h
    exact ⟨o, keep _ _ h1, RepH.go g h2⟩
  · rcases List.mem_cons.mp z with e' | z
    · obtain ⟨o, h1, h2⟩ := C.cell n e h
      have h1' : R.H d = some o := by rw [← e']; exact h1
      rw [hd] at h1'
      cases h1'
    · exact C.out n e h z
  · rcases List.mem_cons.mp ha with e | ha
    · exact ⟨o0, by rw [e]; exact upd_same⟩
    · obtain ⟨o, h⟩ := C.dom a ha
      exact ⟨o, keep a o h⟩
theorem hidO_put {R : RC} (C : Cells R) {d : Addr} (hd : d ∈ R.X) (o1 : HO) : Go R (R.upd d o1) ∧ Cells (R.upd d o1) := by
  have keep : ∀ a o, R.H a = some o → a ≠ d → (R.upd d o1).H a = some o := fun a o h n => by
    show L2.upd R.H d o1 a = some o
    rw [upd_ne n]
    exact h
  have g : Go R (R.upd d o1) := ⟨rfl, rfl, fun a o h n => ⟨keep a o h fun z => n.2 (by rw [z]; exact hd), n⟩, Nat.le_refl _, fun _ _ => rfl⟩
  refine ⟨g, ⟨fun n e h => ?_, C.inj, C.out, fun a ha => ?_, ZOk.go g C.zok⟩⟩
  · obtain ⟨o, h1, h2⟩ := C.cell n e h
    exact ⟨o, keep _ _ h1 fun z => C.out n e h (by rw [show R.ρ n = d from z]; exact hd), RepH.go g h2⟩
  · by_cases e : a = d
    · exact ⟨o1, by rw [e]; exact upd_same⟩
    · obtain ⟨o, h⟩ := C.dom a ha
      exact ⟨o, keep a o h e⟩
/-- what was made is handed over: a tree, or a cell -/
theorem made_done {K : PySem.W.Frag} {cl : CL} {W : WX} {σ : St} {R R2 : RC} {p : Addr} {τ2 : List (Option D)} {d : D} {o : HO} {md : Nat} {Q : VK} (hp : R.H p = none) (A : Cells R) (xX : R2.X = p :: R.X) (e0 : Ext0 R R2) (A2 : At K cl R2 σ τ2) (ho : RepH R2 o d)
    (h : ∀ b R', Ext R R' → (if md = 0 then R'.S = R2.S ∧ Rep R' b d else R'.S = R2.S ++ [some d] ∧ Rep R' b (.ref R2.S.length)) → At K cl R' σ τ2 → Q b R'.H) : Q (.ref p) (upd R2.H p o) := by
  have pX : p ∉ R.X := (A.nl hp).2
  have pX2 : p ∈ R2.X := by rw [xX]; exact List.mem_cons_self
  obtain ⟨g3, C3⟩ := hidO_put A2.cells pX2 o
  have x3 : (R2.upd p o).X = p :: R.X := xX
  have rH : RepH (R2.upd p o) o d := RepH.go g3 ho
  have hH : (R2.upd p o).H p = some o := upd_same
  have kp : ∀ a u, R.H a = some u → ¬ Live R.ρ R.S a → (R2.upd p o).H a = some u ∧ ¬ Live R2.ρ R2.S a := fun a u h1 n1 => by
    obtain ⟨h2, n2⟩ := e0.hp a u h1 n1
    exact ⟨by show L2.upd R2.H p o a = some u; rw [upd_ne (ne_of_none h1 hp)]; exact h2, n2⟩
  by_cases hm : md = 0
  · obtain ⟨g, C⟩ := unhid_ok C3 x3
    have xx : Ext R ((R2.upd p o).unhid R.X) := Ext0.ext ⟨e0.K, e0.cl, kp, e0.len, e0.rho⟩ rfl
    refine h (.ref p) ((R2.upd p o).unhid R.X) xx ?_ ⟨A2.K, A2.cl, C, A2.slots.go (g3.trans g)⟩
    rw [if_pos hm]
    exact ⟨rfl, Rep.of_H (R := (R2.upd p o).unhid R.X) hH ⟨C3.outL pX2, pX⟩ (RepH.go g rH)⟩
  · obtain ⟨g, C, nl⟩ := adopt_ok C3 x3 pX hH rH
    have xx : Ext R ((R2.upd p o).adopt R.X p d) := Ext0.ext ⟨e0.K, e0.cl, fun a u h1 n1 => by
      obtain ⟨h2, n2⟩ := kp a u h1 n1
      exact ⟨h2, nl a (ne_of_none h1 hp) n2⟩, Nat.le_trans e0.len g.len, fun n hn => (g.rho n (Nat.lt_of_lt_of_le hn e0.len)).trans (e0.rho n hn)⟩ rfl
    refine h (.ref p) ((R2.upd p o).adopt R.X p d) xx ?_ ⟨A2.K, A2.cl, C, A2.slots.go (g3.trans g)⟩
    rw [if_neg hm]
    refine ⟨rfl, ?_⟩
    show Rep ((R2.upd p o).adopt R.X p d) (.ref p) (.ref R2.S.length)
    unfold Rep
    refine ⟨?_, ?_⟩
    · show V.ref p = V.ref (if R2.S.length = R2.S.length then p else R2.ρ _)
      rw [if_pos rfl]
    · show R2.S.length < (R2.S ++ [some d]).length
      rw [List.length_append]
      show R2.S.length < R2.S.length + 1
      omega
/-- values, one after another -/
def evMs : List (M D) → M (List D)
  | [] => M.pure []
  | m :: r => M.bind m fun d => M.bind (evMs r) fun ds => M.pure (d :: ds)
def trsOf (K : PySem.W.Frag) (cl : CL) (W : WX) : List Key → List (M D) → List (TE × TE)
  | k :: ks, m :: ms => (tC (kV k), rd relD K cl W m) :: trsOf K cl W ks ms
  | _, _ => []
theorem pairs_read {K : PySem.W.Frag} {cl : CL} {W : WX} {σ : St} : ∀ {ks : List Key} {ms : List (M D)} {R : RC} {τ : List (Option D)} {Q : List V → Hp → Prop} {Q2 : List (V × V) → Hp → Prop}, ks.length = ms.length → At K cl R σ τ → rdAt relL K cl W R τ (evMs ms) σ Q →
    (∀ vs H, vs.length = ks.length → Q vs H → Q2 (List.zipWith (fun k v => (kV k, v)) ks vs) H) → tPairs (trsOf K cl W ks ms) σ R.H Q2
  | [], [], R, τ, Q, Q2, _, A, h, w => w [] R.H rfl (rdAt_pure h A RepL.nil)
  | [], _ :: _, _, _, _, _, hl, _, _, _ => by simp at hl
  | _ :: _, [], _, _, _, _, hl, _, _, _ => by simp at hl
  | k :: ks, m :: ms, R, τ, Q, Q2, hl, A, h, w => by
    show rd relD K cl W m σ R.H fun y H2 => tPairs (trsOf K cl W ks ms) σ H2 fun ps H3 => Q2 ((kV k, y) :: ps) H3
    refine ⟨R, τ, rfl, A, rdAt_mono (rdAt_bind (rel := relD) h) fun y H1 ⟨R1, τ1, d, e1, x1, A1, r1, h1⟩ => ?_⟩
    subst e1
    refine pairs_read (by simpa using hl) A1 (rdAt_bind (rel := relL) h1) fun vs H2 hvl ⟨R2, τ2, ds, e2, x2, A2, r2, h2⟩ => ?_
    subst e2
    exact w (y :: vs) R2.H (by simp [hvl]) (rdAt_pure h2 A2 (RepL.cons (Rep.ext x2 r1) r2))
theorem zip_kv : ∀ {ks : List Key} {vs : List V}, vs.length = ks.length → List.zipWith (fun k v => (kV k, v)) ks vs = (ks.zip vs).map fun kv => (kV kv.1, kv.2)
  | [], [], _ => rfl
  | [], _ :: _, h => by simp at h
  | _ :: _, [], h => by simp at h
  | k :: ks, v :: vs, h => by
    rw [List.zipWith_cons_cons, List.zip_cons_cons, List.map_cons, zip_kv (by simpa using h)]
theorem merge_new : ∀ {more acc : List (Key × V)}, ((acc ++ more).map (·.1)).Nodup → mergeK acc more = acc ++ more
  | [], acc, _ => by simp [mergeK]
  | p :: more, acc, h => by
    have hn : (acc.any fun kv => decide (kv.1 = p.1)) = false := by
      rw [List.any_eq_false]
      intro y hy
      simp only [decide_eq_true_eq]
      intro z
      rw [List.map_append, List.nodup_append] at h
      exact h.2.2 y.1 (List.mem_map_of_mem hy) p.1 (by simp) z
    show mergeK (putK acc p.1 p.2) more = acc ++ p :: more
    have e : putK acc p.1 p.2 = acc ++ [p] := by
      unfold putK
      rw [hn]
      rfl
    rw [e, merge_new (by simpa using h)]
    simp
section
variable {X : Cx} {cl : CL} {W : WX} {pos : Pos} {keys : List (Option Expr)} {vals : List Expr} {ks : List Key} {ms : List (M D)}
abbrev dicM (md : Nat) (ks : List Key) (ml : M (List D)) : M D := M.bind ml fun xs => if xs.length = ks.length ∧ ks.Nodup ∧ ks.length ≤ 15 then new md (.dK ks xs) else bad
theorem se_dic {md : Nat} (h : PPs X pos keys vals (trsOf X.K cl W ks ms)) (hall : keys.all (·.isSome) = true) (hl : keys.length = vals.length) (h0 : keys ≠ []) (h15 : keys.length ≤ 15) (hk : ks.length = ms.length) :
    SE X cl W (.Dict keys vals pos) (dicM md ks (evMs ms)) := by
  refine PE.weak (pe_disp h hall hl h0 h15) fun σ H Q h => ?_
  obtain ⟨R, τ, hH, A, h⟩ := h
  subst hH
  intro p hp
  obtain ⟨e0, g0, C0⟩ := hidO_new (o0 := .dK []) A.cells hp
  have A0 : At X.K cl (R.hidO p (.dK [])) σ τ := ⟨A.K, A.cl, C0, A.slots.go g0⟩
  show tPairs (trsOf X.K cl W ks ms) σ (R.hidO p (.dK [])).H _
  have run : rdAt relL X.K cl W (R.hidO p (.dK [])) τ (evMs ms) σ (fun vs H2 => ∃ R2 τ2 xs, R2.H = H2 ∧ Ext (R.hidO p (.dK [])) R2 ∧ At X.K cl R2 σ τ2 ∧ RepL R2 vs xs ∧ evMs ms ⟨τ, R.S⟩ = .ok xs ⟨τ2, R2.S⟩) := by
    unfold rdAt
    rw [show (R.hidO p (.dK [])).S = R.S from rfl]
    unfold rdAt dicM M.bind at h
    cases q : evMs ms ⟨τ, R.S⟩ with
    | bad => rw [q] at h; exact h
    | exn c ns xs s =>
      rw [q] at h
      dsimp only at h ⊢
      intro R' cls dd x1 e1 A1 r1
      have x1X : R'.X = p :: R.X := x1.X
      obtain ⟨g, C⟩ := unhid_ok A1.cells x1X
      have xx : Ext R (R'.unhid R.X) := Ext0.ext (R' := R'.unhid R.X) ⟨(e0.trans x1.e0).K, (e0.trans x1.e0).cl, (e0.trans x1.e0).hp, (e0.trans x1.e0).len, (e0.trans x1.e0).rho⟩ rfl
      refine h (R'.unhid R.X) cls dd xx e1 ⟨A1.K, A1.cl, C, A1.slots.go g⟩ ?_
      obtain ⟨r2, r3⟩ := r1
      refine ⟨r2, r3.imp id fun ⟨d, fs, b1, b2, b3, b4, b5⟩ => ⟨d, fs, b1, b2, (g.hp _ _ b2 b3).2, b4, RepL.go g _ _ b5⟩⟩
    | ok xs s =>
      dsimp only
      intro b R' x1 e1 A1 r1
      exact ⟨R', s.τ, xs, rfl, x1, A1, r1, by rw [e1]⟩
  refine pairs_read hk A0 run fun vs H2 hvl ⟨R2, τ2, xs, e2, x2, A2, r2, q2⟩ => ?_
  subst e2
  have pX : (R.hidO p (.dK [])).H p = some (.dK []) := upd_same
  have pnl : ¬ Live (R.hidO p (.dK [])).ρ (R.hidO p (.dK [])).S p := C0.outL (show p ∈ p :: R.X from List.mem_cons_self)
  obtain ⟨pX2, pnl2⟩ := x2.hp p _ pX pnl
  unfold rdAt dicM M.bind at h
  rw [q2] at h
  dsimp only at h
  by_cases hc : xs.length = ks.length ∧ ks.Nodup ∧ ks.length ≤ 15
  · rw [if_pos hc] at h
    obtain ⟨c1, c2, c3⟩ := hc
    have hzl : (ks.zip vs).map (·.1) = ks := List.map_fst_zip (by omega)
    have hzr : (ks.zip vs).map (·.2) = vs := List.map_snd_zip (by omega)
    refine ⟨pX2, ks.zip vs, zip_kv hvl, by rw [List.length_zip]; omega, ?_⟩
    rw [merge_new (acc := []) (by rw [List.nil_append, hzl]; exact c2), List.nil_append]
    refine made_done (W := W) (md := md) (d := .dK ks xs) hp A.cells x2.X (e0.trans x2.e0) A2 ⟨_, rfl, hzl, by rw [hzr]; exact r2⟩ fun b R' x' hif A' => ?_
    unfold new at h
    by_cases hm : md = 0
    · rw [if_pos hm] at hif h
      exact h b R' x' hif.1 A' hif.2
    · rw [if_neg hm] at hif h
      exact h b R' x' hif.1 A' hif.2
  · rw [if_neg hc] at h
    exact h.elim
end
end Gc

end

section
set_option Elab.async false
set_option linter.all false
set_option maxRecDepth 100000
set_option maxHeartbeats 1000000
/-! the interpreter is sound: defs as values, xs[::-1], the class's own len and == -/
namespace Gc
open PySem PySem.Spec L2
section
variable {X : Cx} {cl : CL} {W : WX} {a b c e o : Expr} {pos p2 p apos : Pos} {ma mb mc mo : M D} {rest es : List Expr} {ml : M (List D)} {x : Str} {P : Pg} {hc : Hc} {k f np : Nat} {fa : Addr}
theorem se_fnv (hg : Gl X x) (hm : X.mg x = some (.ref (cl.fa f))) (hd : (x == ("__debug__" : Str)) = false) : SE X cl W (.Name x p) (M.pure (.fn f)) := by
  refine PE.weak (pe_glob (v := .ref (cl.fa f)) hg hm rfl hd) fun σ H Q ⟨R, τ, hH, A, h⟩ => ?_
  subst hH
  exact rdAt_pure h A (by unfold Rep; rw [A.cl])
/-- a def that a slot holds is called -/
theorem se_callV {md i : Nat} (F : ∀ f q, P.fns[f]? = some q → FnH X.prog X.w X.K X.mg X.base cl hc k f q.ps (cl.fa f)) (hr : Room k X.A) (tk : Takes X W) (hN : X.N[i]? = some x) (hv : Vis X.env.scope x) (hdb : (x == ("__debug__" : Str)) = false) (hcd : (x == ("__classdict__" : Str)) = false)
    (hs : noStars (e :: es) = true) (ha : SA X cl W (e :: es) ml) : SE X cl W (.Call (.Name x p) (e :: es) [] pos) (M.bind (fnAt P i) fun f => M.bind ml fun ds => callP P hc f ds md) := by
  obtain ⟨h1, h2⟩ := Bool.and_eq_true_iff.mp (show (notStar e && noStars es) = true from hs)
  refine ⟨fun pins s σ H Q I h => ?_⟩
  obtain ⟨R, τ, hH, A, h⟩ := h
  subst hH
  have key : ∃ f q, τ[i]? = some (some (.fn f)) ∧ P.fns[f]? = some q ∧ rdAt relD X.K cl W R τ (M.bind ml fun ds => callP P hc f ds md) σ Q := by
    unfold rdAt M.bind fnAt at h
    dsimp only at h
    cases q : τ[i]? with
    | none => rw [q] at h; exact h.elim
    | some o =>
      cases o with
      | none => rw [q] at h; exact h.elim
      | some d =>
        cases d with
        | fn f =>
          rw [q] at h
          dsimp only at h
          cases hq : P.fns[f]? with
          | none => rw [hq] at h; exact h.elim
          | some z => rw [hq] at h; exact ⟨f, z, rfl, hq, h⟩
        | _ => rw [q] at h; exact h.elim
  obtain ⟨f, q, hf, hq, h⟩ := key
  obtain ⟨v, hσ, sr⟩ := A.slots.2 i _ hf
  have ev : v = .ref (cl.fa f) := by
    rcases sr with sr | ⟨z, _⟩
    · unfold Rep at sr; rw [A.cl] at sr; exact sr
    · cases z
  subst ev
  refine wpAny_Call_Name_kw (thn ((pe_var (pos := p) hN hv hdb hcd).run pins s σ R.H (fun v H1 => v = .ref (cl.fa f) ∧ H1 = R.H) I ⟨.ref (cl.fa f), hσ, rfl, rfl⟩) fun u s1 ⟨v, H1, I1, r1, q1⟩ => ?_)
  obtain ⟨rfl, rfl⟩ := q1
  cases r1
  obtain ⟨fd, F1, hk, hb, _⟩ := F f q hq
  refine PySem.W.callWith_K (h₀ := X.base) I.ok.mod.kin hk (thn (ha.run pos pins s1 σ _ _ I1 ⟨R, τ, rfl, A, rdAt_bind (rel := relL) h⟩) fun us s2 ⟨vs, H2, I2, r, R1, τ1, ds, e1, x1, A1, r1, h1⟩ => ⟨I2.kIn, ?_⟩) (star_plain h1 _) (stars_plain h2 _ _)
  subst e1
  obtain ⟨hl, h1⟩ := callP_at hq h1
  exact run_fnSD (dvs := []) (ds := []) (E := WE W) F1 hr hb .nil (passAt tk σ) I2 r (by rw [List.append_nil]; exact sp_of_call A1 r1 hl h1)
theorem RepL.reverse {R : RC} : ∀ {vs : List V} {ds : List D}, RepL R vs ds → RepL R vs.reverse ds.reverse
  | vs, [], r => by unfold RepL at r; subst r; exact RepL.nil
  | vs, d :: ds, r => by
    unfold RepL at r
    obtain ⟨v, w, e, h1, h2⟩ := r
    subst e
    rw [List.reverse_cons, List.reverse_cons]
    exact (RepL.reverse h2).append (RepL.cons h1 RepL.nil)
/-- xs[::-1] -/
theorem se_rev {md kk : Nat} {p1 p2 p3 : Pos} (ha : SE X cl W a ma) : SE X cl W (.Subscript a (.Slice none none (some (.UnaryOp .USub (.Constant (.int 1) kk p1) p2)) p3) pos) (M.bind ma fun d => M.bind (opS (fun S _ => revD S d) ()) (fin md)) := by
  refine PE.weak (pe_revL ha) fun σ H Q ⟨R, τ, hH, A, h⟩ => ?_
  refine ⟨R, τ, hH, A, rdAt_mono (rdAt_bind (rel := relD) h) fun x H1 ⟨R1, τ1, d, e1, x1, A1, r1, h1⟩ => ?_⟩
  subst e1
  obtain ⟨z, hz, h2⟩ := rdAt_opS h1
  unfold revD at hz
  split at hz
  · rename_i xs hd
    cases hz
    obtain ⟨p, vs, ev, hp, rp⟩ := de_lst A1.cells r1 hd
    exact ⟨p, vs, ev, SqL.of hp, rdAt_new h2 A1 ⟨_, rfl, rp.reverse⟩⟩
  · cases hz
/-- a call of the class's own method within an operation -/
theorem own_call {m : Str} {R : RC} {τ : List (Option D)} {σ : St} {A' : Around} {vs : List V} {us : List Value} {ds : List D} {pins : List (Addr × Obj)} {s : Shared} {Q : VK} {fn : Fn} {fd : FuncData} (hfn : P.fns[f]? = some fn)
    (F : FnOk X.prog X.w X.K X.mg X.base (CX X.prog X.w) k fa fd fn.ps (spF X.K cl hc f fn.ps.length)) (hb : Binds X.K fd fn.ps []) (tk : Takes X W) (hr : Room k A') (hfr : A'.frames = X.A.frames) (I : Inv X pins σ R.H s) (A : At X.K cl R σ τ) (r : RepL R vs ds) (rv : Vals vs us)
    (h : rdAt relD X.K cl W R τ (callP P hc f ds 0) σ Q) : wpAny (model X.prog X.w) A' (call (.ref fa) us) (EP X pins σ Q) X.xe s := by
  obtain ⟨hl, h1⟩ := callP_at hfn h
  have hsp : spF X.K cl hc f fn.ps.length vs R.H Q (WE W σ) := sp_of_call A r hl h1
  have e0 : Env0 X.prog X.w X.K X.mg X.base A' X.stack s R.H := by
    have e := I.env0
    exact ⟨by rw [hfr]; exact e.frames, e.mod, e.bs, e.bsz, e.funs, e.frf, e.hok, e.bare⟩
  have hlen := F.len _ _ _ _ hsp
  have hbb := hb s us I.kIn (by rw [List.append_nil, ← rv.length]; exact hlen)
  rw [List.append_nil] at hbb
  refine wpAny_call (codeAny_mono (F.run A' X.stack s R.H ⟨us, []⟩ us vs _ (WE W σ) hr e0 hbb rv hsp) fun r s' hq => ?_)
  cases r with
  | error e => exact passAt tk σ pins _ _ e s' I hq
  | ok fl =>
    cases fl with
    | ret w =>
      obtain ⟨z, H', I', rz, ez⟩ := I.after hq
      exact ⟨z, H', I', rz, ez⟩
    | next => exact False.elim hq
    | brk => exact False.elim hq
    | cont => exact False.elim hq
theorem typ_of {R : RC} {v : V} {u : Value} {d e : D} {pins : List (Addr × Obj)} {σ : St} {s : Shared} (kit : Kit X.K cl P) (hcl : R.cl = cl) (C : Cells R) (I : Inv X pins σ R.H s) (rv : RelV v u) (r : Rep R v d) (hd : de R.S d = some e) (ok : okD P e = true) :
    PySem.W.Looks (model X.prog X.w) s.heap (typeOf u) (tyD cl e) := by
  have ty : TyX X.K R.H v (tyD cl e) := by
    rcases rep_de C r hd with ⟨n, _, o, ev, _, ho, ro⟩ | ⟨r', _⟩
    · subst ev; exact repH_tyX kit hcl ok ho ro
    · exact rep_tyX kit hcl ok r'
  obtain ⟨Ph, K1, hp, _⟩ := kit_of I rv ty
  exact K1.ty (model X.prog X.w) s.heap I.kIn hp
theorem cmpO_at {op : CmpOp} {pins : List (Addr × Obj)} {σ : St} {H2 : Hp} {s2 : Shared} {R2 : RC} {τ2 : List (Option D)} {x y : V} {v u : Value} {d e : D} {Q : VK} (hu : X.A.units + 100 < cLine) (kit : Kit X.K cl P) (HM : MtH X.prog X.w X.K X.mg X.base cl P hc k "__eq__") (hr : Room k X.A) (tk : Takes X W)
    (I2 : Inv X pins σ H2 s2) (rx : RelV x v) (ry : RelV y u) (e2 : R2.H = H2) (A2 : At X.K cl R2 σ τ2) (r1 : Rep R2 x d) (r2 : Rep R2 y e) (h2 : rdAt relD X.K cl W R2 τ2 (cmpM P hc op d e) σ Q) :
    wpAny (model X.prog X.w) X.A (compareOp op v u) (EP X pins σ Q) X.xe s2 := by
  subst e2
  cases q : ownEq P R2.S op d e with
  | none =>
    have h3 : rdAt relD X.K cl W R2 τ2 (M.bind (opS (fun S _ => cmpD S op d e) ()) fun k => M.pure (.bl k)) σ Q := by
      unfold rdAt cmpM at h2
      dsimp only at h2
      rw [q] at h2
      exact h2
    obtain ⟨kk, hk, h4⟩ := rdAt_opS h3
    exact opr_cmp hu pins s2 σ R2.H x y v u Q I2 rx ry ⟨R2, d, e, kk, rfl, A2.cells, r1, r2, hk, rdAt_pure h4 A2 rep_bl⟩
  | some p =>
    have h3 : rdAt relD X.K cl W R2 τ2 (M.bind (callP P hc p [d, e] 0) fun d => M.bind (liftO (isBlD d)) fun k => M.pure (.bl k)) σ Q := by
      unfold rdAt cmpM at h2
      dsimp only at h2
      rw [q] at h2
      exact h2
    have hop : op = .Eq ∧ methD P R2.S d "__eq__" = some p ∧ ∃ e', de R2.S e = some e' ∧ okD P e' = true := by
      cases op <;> first | cases q | skip
      unfold ownEq at q
      dsimp only at q
      by_cases ho : okAny P R2.S e = true
      · rw [if_pos ho] at q
        refine ⟨rfl, q, ?_⟩
        unfold okAny at ho
        split at ho
        · rename_i e' he; exact ⟨e', he, ho⟩
        · cases ho
      · rw [if_neg ho] at q; cases q
    obtain ⟨rfl, hm, e', hde, hok⟩ := hop
    obtain ⟨c, ad, dx, fs, fn, fa, ev, hp, hl, hpc, hfn, ⟨fd, F, hk, hbd, _⟩, hmt⟩ := meth_case A2 HM r1 hm
    subst ev
    obtain rfl : v = Value.ref ad := rx
    show wpAny (model X.prog X.w) X.A (richCompare .Eq (.ref ad) u) (EP X pins σ Q) X.xe s2
    obtain ⟨mA, J, _⟩ := ins_get I2.hok hp
    obtain ⟨od, J, _⟩ := J.look
    obtain ⟨m, hF⟩ := I2.fr
    refine PySem.W.cmp_K (op := .Eq) (tb := tyD cl e') (by omega) hF I2.ok.mod.kin J (typ_of kit A2.cl A2.cells I2 ry r2 hde hok) (kit.nf c e' hpc hok) hmt.at_ hmt.fn ?_
    refine wpAny_mono (own_call (m := "__eq__") hfn F hbd tk hr rfl I2 A2 (RepL.cons r1 (RepL.cons r2 RepL.nil)) (.cons rfl (.cons ry .nil)) (rdAt_bind (rel := relD) h3)) (fun r s' hq => ?_) fun _ _ z => z
    obtain ⟨z, H', I', rz, R3, τ3, d3, e3, x3, A3, r3, h4⟩ := hq
    obtain ⟨kk, hk3, h5⟩ := rdAt_liftO h4
    cases d3 with
    | bl b3 =>
      cases hk3
      have ez := de_bl r3
      subst ez
      cases rz
      subst e3
      exact ⟨.bl kk, R3.H, I', rfl, rdAt_pure h5 A3 rep_bl⟩
    | _ => cases hk3
theorem se_cmpO {op : CmpOp} (hu : X.A.units + 100 < cLine) (kit : Kit X.K cl P) (HM : MtH X.prog X.w X.K X.mg X.base cl P hc k "__eq__") (hr : Room k X.A) (tk : Takes X W) (ha : SE X cl W a ma) (hb : SE X cl W b mb) (hs : notSet b = true) :
    SE X cl W (.Compare a [op] [b] pos) (M.bind ma fun x => M.bind mb fun y => cmpM P hc op x y) := by
  refine ⟨fun pins s σ H Q I h => ?_⟩
  obtain ⟨R, τ, hH, A, h⟩ := h
  refine wpAny_Compare1 (thn (ha.run pins s σ H _ I ⟨R, τ, hH, A, rdAt_bind (rel := relD) h⟩) fun v s1 ⟨x, H1, I1, rx, R1, τ1, d, e1, x1, A1, r1, h1⟩ => thn (hb.run pins s1 σ H1 _ I1 ⟨R1, τ1, e1, A1, rdAt_bind (rel := relD) h1⟩) fun u s2 ⟨y, H2, I2, ry, R2, τ2, e, e2, x2, A2, r2, h2⟩ => ?_) (nomarks hs)
  exact cmpO_at hu kit HM hr tk I2 rx ry e2 A2 (Rep.ext x2 r1) r2 h2
theorem st_cmpO {op : CmpOp} (hu : X.A.units + 100 < cLine) (kit : Kit X.K cl P) (HM : MtH X.prog X.w X.K X.mg X.base cl P hc k "__eq__") (hr : Room k X.A) (tk : Takes X W) (ha : SE X cl W a ma) (hb : SE X cl W b mb) (hs : notSet b = true) :
    ST X cl W (.Compare a [op] [b] pos) (truM (M.bind ma fun x => M.bind mb fun y => cmpM P hc op x y)) := by
  refine ⟨fun pins s σ H Q I h => ?_⟩
  obtain ⟨R, τ, hH, A, h⟩ := truM_bl h
  refine wpAny_isTrue_Compare1 (thn (ha.run pins s σ H _ I ⟨R, τ, hH, A, rdAt_bind (rel := relD) h⟩) fun v s1 ⟨x, H1, I1, rx, R1, τ1, d, e1, x1, A1, r1, h1⟩ => thn (hb.run pins s1 σ H1 _ I1 ⟨R1, τ1, e1, A1, rdAt_bind (rel := relD) h1⟩) fun u s2 ⟨y, H2, I2, ry, R2, τ2, e, e2, x2, A2, r2, h2⟩ => ?_) (nomarks hs)
  have r1' := Rep.ext x2 r1
  have h3 : rdAt relD X.K cl W R2 τ2 (cmpM P hc op d e) σ fun z H3 => ∃ k, z = .bl k ∧ Q k H3 := by
    have bl : ∀ (s0 : MS) (z : D) (s' : MS), cmpM P hc op d e s0 = .ok z s' → ∃ k, z = .bl k := by
      intro s0 z s' hz
      unfold cmpM at hz
      split at hz
      · unfold M.bind at hz
        split at hz
        · rename_i d4 s4 _
          unfold liftO at hz
          cases d4 <;> simp [isBlD, M.bind, M.pure] at hz
          exact ⟨_, hz.1.symm⟩
        · cases hz
        · cases hz
      · unfold M.bind at hz
        split at hz
        · cases hz; exact ⟨_, rfl⟩
        · cases hz
        · cases hz
    replace h2 : rdAt relD X.K cl W R2 τ2 (cmpM P hc op d e) σ _ := h2
    unfold rdAt at h2 ⊢
    cases q : cmpM P hc op d e ⟨τ2, R2.S⟩ with
    | ok z s' =>
      rw [q] at h2
      dsimp only at h2 ⊢
      obtain ⟨kk, ez⟩ := bl _ _ _ q
      subst ez
      intro b R3 x3 e3 A3 r3
      obtain ⟨R4, τ4, d4, k4, e4, A4, r4, hk4, hq⟩ := h2 b R3 x3 e3 A3 r3
      have eb := de_bl r3
      subst eb
      refine ⟨kk, rfl, ?_⟩
      rw [← tru_bl r4 hk4]
      exact hq
    | exn c ns xs s' => rw [q] at h2; exact h2
    | bad => rw [q] at h2; exact h2
  refine thn (cmpO_at hu kit HM hr tk I2 rx ry e2 A2 r1' r2 h3) fun c s3 ⟨z, H3, I3, r3, kk, ez, hq⟩ => ?_
  subst ez
  cases r3
  exact wpAny_truthy_bool ⟨H3, I3, hq⟩
theorem opS_ok {α : Type} {f : List (Option D) → Unit → Option α} {s : MS} {a : α} (h : f s.S () = some a) : opS f () s = .ok a s := by unfold opS; rw [h]
/-- len of a value -/
theorem lenO_at {pins : List (Addr × Obj)} {σ : St} {s1 : Shared} {R1 : RC} {τ1 : List (Option D)} {v : V} {u : Value} {d : D} {Q : VK} (HM : MtH X.prog X.w X.K X.mg X.base cl P hc k "__len__") (hr : Room (k + 1) X.A) (tk : Takes X W) (hl : CallR X (.builtin "len") (rB X.K cl W .len 0))
    (I1 : Inv X pins σ R1.H s1) (rv : RelV v u) (A1 : At X.K cl R1 σ τ1) (r1 : Rep R1 v d) (h2 : rdAt relD X.K cl W R1 τ1 (lenM P hc d) σ Q) : wpAny (model X.prog X.w) X.A (call (.builtin "len") [u]) (EP X pins σ Q) X.xe s1 := by
  cases q : methD P R1.S d "__len__" with
  | none =>
    have h3 : rdAt relD X.K cl W R1 τ1 (M.bind (opS (fun S _ => lenD S d) ()) fun n => M.pure (.int (n : Int))) σ Q := by
      unfold rdAt lenM at h2
      dsimp only at h2
      rw [q] at h2
      exact h2
    obtain ⟨n, hn, h4⟩ := rdAt_opS h3
    refine hl pins s1 σ R1.H [v] [u] Q I1 (.cons rv .nil) ⟨σ, R1, τ1, [d], rfl, A1, RepL.cons r1 RepL.nil, ?_⟩
    have e5 : (opS (fun S _ => bltD S .len [d]) () : M Ov) ⟨τ1, R1.S⟩ = .ok (.v (.int (n : Int))) ⟨τ1, R1.S⟩ := by
      have e6 : bltD R1.S .len [d] = some (.v (.int (n : Int))) := by
        show (lenD R1.S d).map (fun n : Nat => Ov.v (.int (n : Int))) = _
        rw [hn]; rfl
      exact opS_ok e6
    unfold rdAt M.bind
    rw [e5]
    exact h4
  | some f =>
    have h3 : rdAt relD X.K cl W R1 τ1 (M.bind (callP P hc f [d] 0) fun d => M.bind (liftO (intD d)) fun i => if 0 ≤ i ∧ i < 2 ^ 62 then M.pure (.int i) else bad) σ Q := by
      unfold rdAt lenM at h2
      dsimp only at h2
      rw [q] at h2
      exact h2
    obtain ⟨c, ad, dx, fs, fn, fa, ev, hp, hll, hpc, hfn, ⟨fd, F, hk, hbd, _⟩, hmt⟩ := meth_case A1 HM r1 q
    subst ev
    obtain rfl : u = Value.ref ad := rv
    obtain ⟨mA, J, _⟩ := ins_get I1.hok hp
    obtain ⟨od, J, _⟩ := J.look
    obtain ⟨m, hF⟩ := I1.fr
    refine PySem.W.len_K hF I1.ok.mod.kin J hmt.at_ hmt.fn ?_
    refine wpAny_mono (own_call (m := "__len__") hfn F hbd tk hr.in1 rfl I1 A1 (RepL.cons r1 RepL.nil) (.cons rfl .nil) (rdAt_bind (rel := relD) h3)) (fun r s' hq => ?_) fun _ _ z => z
    obtain ⟨z, H', I', rz, R3, τ3, d3, e3, x3, A3, r3, h4⟩ := hq
    obtain ⟨i, hi, h5⟩ := rdAt_liftO h4
    cases d3 with
    | int j =>
      cases hi
      have ez := de_int r3
      subst ez
      obtain ⟨t, rfl⟩ := (show ∃ t, r = Value.int i t from rz)
      subst e3
      by_cases hb : 0 ≤ i ∧ i < 2 ^ 62
      · rw [if_pos hb] at h5
        refine ⟨⟨hb.1, by omega⟩, .int i, R3.H, ?_, ⟨_, rfl⟩, rdAt_pure h5 A3 rep_int⟩
        exact I'.kept (t' := s'.toks + 1) fun b ob q => q
      · rw [if_neg hb] at h5
        exact (rdAt_bad h5).elim
    | _ => cases hi
theorem se_lenO (HM : MtH X.prog X.w X.K X.mg X.base cl P hc k "__len__") (hr : Room (k + 1) X.A) (tk : Takes X W) (hl : CallR X (.builtin "len") (rB X.K cl W .len 0)) (hg : Gl X "len") (hm : X.mg "len" = none) (hs : notStar a = true) (ha : SE X cl W a ma) :
    SE X cl W (.Call (.Name "len" p) [a] [] pos) (M.bind ma fun d => lenM P hc d) := by
  refine ⟨fun pins s σ H Q I h => ?_⟩
  obtain ⟨R, τ, hH, A, h⟩ := h
  have h' : rdAt relD X.K cl W R τ (M.bind (M.bind ma fun d => M.bind (M.pure []) fun ds => M.pure (d :: ds)) fun ds => match ds with | [d] => lenM P hc d | _ => bad) σ Q := by
    rw [M.bind_assoc]
    exact h
  refine wpAny_Call_Name_kw (ld_blt (u := .builtin "len") I hg hm (by decide +kernel) ?_ (by decide) (by decide))
  refine PyProof.Rows.callWith_builtin1 (thn ((sa_cons hs ha sa_nil).run pos pins s σ H _ I ⟨R, τ, hH, A, rdAt_bind (rel := relL) h'⟩) fun us s1 ⟨vs, H1, I1, rv, R1, τ1, ds, e1, x1, A1, r1, h1⟩ => ?_) (star_plain hs _) rfl
  subst e1
  cases ds with
  | nil => exact (rdAt_bad h1).elim
  | cons d ds =>
    cases ds with
    | cons d' ds => exact (rdAt_bad h1).elim
    | nil =>
      have r9 : RepL R1 vs [d] := r1
      unfold RepL at r9
      obtain ⟨v, w, ev, r9, r2⟩ := r9
      unfold RepL at r2
      subst r2 ev
      cases rv with
      | cons rv rn =>
        cases rn
        exact lenO_at HM hr tk hl I1 rv A1 r9 h1
end
end Gc

end

section
set_option Elab.async false
set_option linter.all false
set_option maxRecDepth 100000
set_option maxHeartbeats 1000000
/-! the interpreter is sound: methods of texts -/
namespace Gc
open PySem PySem.Spec L2
section
variable {X : Cx} {cl : CL} {W : WX} {a b c e o : Expr} {pos p2 p apos : Pos} {ma mb mc mo : M D}
theorem strs_rep {R : RC} : ∀ ys : List Str, RepL R (ys.map V.str) (ys.map D.str)
  | [] => RepL.nil
  | y :: ys => RepL.cons rep_str (strs_rep ys)
theorem asStrs_rep {R : RC} : ∀ {ds : List D} {vs : List V} {ys : List Str}, RepL R vs ds → asStrs ds = some ys → vs = ys.map V.str
  | [], vs, ys, r, h => by
    unfold RepL at r; cases h; exact r
  | d :: ds, vs, ys, r, h => by
    unfold RepL at r
    obtain ⟨v, w, e, h1, h2⟩ := r
    cases d with
    | str x =>
      unfold asStrs at h
      cases q : asStrs ds with
      | none => rw [q] at h; cases h
      | some zs =>
        rw [q] at h
        cases h
        rw [e, de_strv h1, asStrs_rep h2 q]
        rfl
    | _ => cases h
theorem strD_inv {R : RC} {v : V} {d : D} {x : Str} (r : Rep R v d) (h : strD d = some x) : v = .str x := by
  cases d with
  | str y => cases h; exact de_strv r
  | _ => cases h
theorem few1 (hs : notStar e = true) (env : Env) (pos : Pos) : ((backTo pos (starEach [e] env)).all (fun x => !x.1) && (backToKw pos (keywordEach [] env)).all (fun x => x.1.isSome)
      && decide ([e].length + ([] : List Keyword).length + (if ([] : List Keyword).isEmpty then 0 else 1) < 30)) = true := by
  rw [stars_few (es := [e]) (by show (notStar e && true) = true; rw [hs]; rfl)]
  rfl
theorem se_split {md : Nat} (hb : base0 o = true) (hs : notStar e = true) (hline : (apos.endLine == pos.line) = true) (ho : SE X cl W o mo) (he : SE X cl W e ma) :
    SE X cl W (.Call (.Attribute o "split" apos) [e] [] pos) (M.bind mo fun d => M.bind (liftO (strD d)) fun a => M.bind ma fun x => M.bind (liftO ((strD x).bind fun b => splitD a b)) (fin md)) := by
  refine PE.weak (pe_bm PySem.F.plainAttrs_str PySem.F.slot_str_split PySem.F.type_str_split mt_split ho (sa_cons hs he sa_nil) (base_eq hb _ _) (few1 hs _ _) hline (star_plain hs _) rfl) fun σ H Q h => ?_
  obtain ⟨R, τ, hH, A, h⟩ := h
  refine ⟨R, τ, hH, A, rdAt_mono (rdAt_bind (rel := relD) h) fun x H1 ⟨R1, τ1, d, e1, x1, A1, r1, h1⟩ => ?_⟩
  subst e1
  obtain ⟨a, ha, h2⟩ := rdAt_liftO h1
  have ex := strD_inv r1 ha
  subst ex
  refine ⟨rfl, R1, τ1, rfl, A1, ?_⟩
  have h3 : rdAt relD X.K cl W R1 τ1 (M.bind (M.bind ma fun d => M.bind (M.pure []) fun ds => M.pure (d :: ds)) fun ds => match ds with | [x] => M.bind (liftO ((strD x).bind fun b => splitD a b)) (fin md) | _ => bad) σ Q := by
    rw [M.bind_assoc]
    exact h2
  refine rdAt_mono (rdAt_bind (rel := relL) h3) fun vs H2 ⟨R2, τ2, ds, e2, x2, A2, r2, h4⟩ => ?_
  subst e2
  cases ds with
  | nil => exact (rdAt_bad h4).elim
  | cons d2 ds =>
    cases ds with
    | cons d' ds => exact (rdAt_bad h4).elim
    | nil =>
      have r9 : RepL R2 vs [d2] := r2
      unfold RepL at r9
      obtain ⟨v, w, ev, r9, r10⟩ := r9
      unfold RepL at r10
      subst r10 ev
      obtain ⟨ov, hv, h5⟩ := rdAt_liftO h4
      cases q : strD d2 with
      | none => rw [q] at hv; cases hv
      | some b =>
        rw [q] at hv
        have hv : splitD a b = some ov := hv
        unfold splitD at hv
        split at hv
        · rename_i hc
          cases hv
          exact ⟨a, b, rfl, by rw [strD_inv r9 q], by simpa using hc.1, hc.2, rdAt_new h5 A2 ⟨_, rfl, strs_rep _⟩⟩
        · cases hv
theorem se_join (hb : base0 o = true) (hs : notStar e = true) (hline : (apos.endLine == pos.line) = true) (ho : SE X cl W o mo) (he : SE X cl W e ma) :
    SE X cl W (.Call (.Attribute o "join" apos) [e] [] pos) (M.bind mo fun d => M.bind (liftO (strD d)) fun a => M.bind ma fun x => opS (fun S _ => joinD S a x) ()) := by
  refine PE.weak (pe_bm PySem.F.plainAttrs_str PySem.F.slot_str_join PySem.F.type_str_join mt_join ho (sa_cons hs he sa_nil) (base_eq hb _ _) (few1 hs _ _) hline (star_plain hs _) rfl) fun σ H Q h => ?_
  obtain ⟨R, τ, hH, A, h⟩ := h
  refine ⟨R, τ, hH, A, rdAt_mono (rdAt_bind (rel := relD) h) fun x H1 ⟨R1, τ1, d, e1, x1, A1, r1, h1⟩ => ?_⟩
  subst e1
  obtain ⟨a, ha, h2⟩ := rdAt_liftO h1
  have ex := strD_inv r1 ha
  subst ex
  refine ⟨rfl, R1, τ1, rfl, A1, ?_⟩
  have h3 : rdAt relD X.K cl W R1 τ1 (M.bind (M.bind ma fun d => M.bind (M.pure []) fun ds => M.pure (d :: ds)) fun ds => match ds with | [x] => opS (fun S _ => joinD S a x) () | _ => bad) σ Q := by
    rw [M.bind_assoc]
    exact h2
  refine rdAt_mono (rdAt_bind (rel := relL) h3) fun vs H2 ⟨R2, τ2, ds, e2, x2, A2, r2, h4⟩ => ?_
  subst e2
  cases ds with
  | nil => exact (rdAt_bad h4).elim
  | cons d2 ds =>
    cases ds with
    | cons d' ds => exact (rdAt_bad h4).elim
    | nil =>
      have r9 : RepL R2 vs [d2] := r2
      unfold RepL at r9
      obtain ⟨v, w, ev, r9, r10⟩ := r9
      unfold RepL at r10
      subst r10 ev
      obtain ⟨dv, hv, h5⟩ := rdAt_opS' h4
      unfold joinD at hv
      cases q : seqD R2.S d2 with
      | none => rw [q] at hv; cases hv
      | some xs =>
        rw [q] at hv
        simp only [Option.bind_some] at hv
        cases q2 : asStrs xs with
        | none => rw [q2] at hv; cases hv
        | some ys =>
          rw [q2] at hv
          simp only [Option.bind_some] at hv
          split at hv
          · rename_i hc
            cases hv
            unfold seqD at q
            split at q
            · rename_i zs hd
              cases q
              obtain ⟨pp, us, ev, hp, rp⟩ := de_lst A2.cells r9 hd
              subst ev
              have eu := asStrs_rep rp q2
              subst eu
              exact ⟨a, pp, ys, rfl, rfl, .inl (SqL.of hp), hc, rdAt_pure h5 A2 rep_str⟩
            · rename_i zs hd
              cases q
              obtain ⟨pp, us, ev, hp, rp⟩ := de_tup A2.cells r9 hd
              subst ev
              have eu := asStrs_rep rp q2
              subst eu
              exact ⟨a, pp, ys, rfl, rfl, .inr (SqT.of hp), hc, rdAt_pure h5 A2 rep_str⟩
            · cases q
          · cases hv
end
end Gc

end

section
set_option Elab.async false
set_option linter.all false
set_option maxRecDepth 100000
set_option maxHeartbeats 1000000
/-! the interpreter is sound: statements -/
namespace Gc
open PySem PySem.Spec L2

def flOk (D : Ends) (σ : St) (R : RC) : Fl → Prop
  | .nx => D.nx σ R.H
  | .bk => D.bk σ R.H
  | .ct => D.ct σ R.H
  | .rt d => ∀ v, Rep R v d → D.rt v R.H
def rdSAt (K : PySem.W.Frag) (cl : CL) (W : WX) (R : RC) (τ : List (Option D)) (m : M Fl) (E : Ends) : Prop :=
  match m ⟨τ, R.S⟩ with
  | .ok fl s => ∀ R' σ', Ext R R' → R'.S = s.S → At K cl R' σ' s.τ → flOk E σ' R' fl
  | .exn c ns xs s => ∀ R' σ' cls dd, Ext R R' → R'.S = s.S → At K cl R' σ' s.τ → RepX R' c ns xs cls dd → W cls dd σ' R'.H
  | .bad => False
def rdS (K : PySem.W.Frag) (cl : CL) (W : WX) (m : M Fl) : L2.TS := fun E σ H => ∃ R τ, R.H = H ∧ At K cl R σ τ ∧ rdSAt K cl W R τ m E
abbrev SS (X : Cx) (cl : CL) (W : WX) (s : Stmt) (m : M Fl) : Prop := PS X s (rdS X.K cl W m)
abbrev SSs (X : Cx) (cl : CL) (W : WX) (s : List Stmt) (m : M Fl) : Prop := PSs X s (rdS X.K cl W m)
theorem PS.weak {X : Cx} {e : Stmt} {t t' : L2.TS} (h : PS X e t) (w : ∀ E σ H, t' E σ H → t E σ H) : PS X e t' := ⟨fun pins s σ H E I hh => h.run pins s σ H E I (w E σ H hh)⟩
theorem PSs.weak {X : Cx} {e : List Stmt} {t t' : L2.TS} (h : PSs X e t) (w : ∀ E σ H, t' E σ H → t E σ H) : PSs X e t' := ⟨fun pins s σ H E I hh => h.run pins s σ H E I (w E σ H hh)⟩

section
variable {α β : Type} {rel : Rel α β} {K : PySem.W.Frag} {cl : CL} {W : WX} {R : RC} {σ : St} {τ : List (Option D)} {E : Ends}
/-- a later state -/
theorem rdSAt_mono {m : M Fl} {E E' : Ends} (h : rdSAt K cl W R τ m E) (n : ∀ σ H, E.nx σ H → E'.nx σ H) (b : ∀ σ H, E.bk σ H → E'.bk σ H) (c : ∀ σ H, E.ct σ H → E'.ct σ H) (r : ∀ v H, E.rt v H → E'.rt v H) : rdSAt K cl W R τ m E' := by
  unfold rdSAt at h ⊢
  split at h
  · rename_i fl s _
    intro R' σ' x e A
    have := h R' σ' x e A
    cases fl with
    | nx => exact n _ _ this
    | bk => exact b _ _ this
    | ct => exact c _ _ this
    | rt d => exact fun v r' => r _ _ (this v r')
  · exact h
  · exact h
/-- an expression, then what is to come -/
theorem rdS_bind {m : M α} {f : α → M Fl} (h : rdSAt K cl W R τ (M.bind m f) E) : rdAt rel K cl W R τ m σ fun b H1 => ∃ R1 τ1 a, R1.H = H1 ∧ Ext R R1 ∧ At K cl R1 σ τ1 ∧ rel R1 b a ∧ rdSAt K cl W R1 τ1 (f a) E := by
  unfold rdSAt M.bind at h
  unfold rdAt
  cases hm : m ⟨τ, R.S⟩ with
  | ok a s =>
    rw [hm] at h
    dsimp only at h ⊢
    intro b R1 x e A r
    refine ⟨R1, s.τ, a, rfl, x, A, r, ?_⟩
    have es : (⟨s.τ, R1.S⟩ : MS) = s := by rw [e]
    unfold rdSAt
    rw [es]
    split at h
    · exact fun R' σ' x' e' A' => h R' σ' (x.trans x') e' A'
    · exact fun R' σ' cls dd x' e' A' r' => h R' σ' cls dd (x.trans x') e' A' r'
    · exact h
  | exn c ns xs s =>
    rw [hm] at h
    exact fun R' cls dd x e A r => h R' σ cls dd x e A r
  | bad =>
    rw [hm] at h
    exact h
/-- a statement, then what is to come -/
theorem rdS_then {m : M Fl} {f : Fl → M Fl} {E' : Ends} (h : rdSAt K cl W R τ (M.bind m f) E)
    (n : ∀ R1 σ1 τ1, Ext R R1 → At K cl R1 σ1 τ1 → rdSAt K cl W R1 τ1 (f .nx) E → E'.nx σ1 R1.H) (b : ∀ R1 σ1 τ1, Ext R R1 → At K cl R1 σ1 τ1 → rdSAt K cl W R1 τ1 (f .bk) E → E'.bk σ1 R1.H)
    (c : ∀ R1 σ1 τ1, Ext R R1 → At K cl R1 σ1 τ1 → rdSAt K cl W R1 τ1 (f .ct) E → E'.ct σ1 R1.H) (r : ∀ R1 σ1 τ1 d v, Ext R R1 → At K cl R1 σ1 τ1 → Rep R1 v d → rdSAt K cl W R1 τ1 (f (.rt d)) E → E'.rt v R1.H) : rdSAt K cl W R τ m E' := by
  unfold rdSAt M.bind at h
  unfold rdSAt
  cases hm : m ⟨τ, R.S⟩ with
  | ok fl s =>
    rw [hm] at h
    dsimp only at h ⊢
    intro R1 σ1 x e A
    have es : (⟨s.τ, R1.S⟩ : MS) = s := by rw [e]
    have key : rdSAt K cl W R1 s.τ (f fl) E := by
      unfold rdSAt
      rw [es]
      split at h
      · exact fun R' σ' x' e' A' => h R' σ' (x.trans x') e' A'
      · exact fun R' σ' cls dd x' e' A' r' => h R' σ' cls dd (x.trans x') e' A' r'
      · exact h
    cases fl with
    | nx => exact n _ _ _ x A key
    | bk => exact b _ _ _ x A key
    | ct => exact c _ _ _ x A key
    | rt d => exact fun v rv => r _ _ _ d v x A rv key
  | exn c ns xs s =>
    rw [hm] at h
    exact h
  | bad =>
    rw [hm] at h
    exact h
theorem rdS_pure {fl : Fl} (h : rdSAt K cl W R τ (M.pure fl) E) (A : At K cl R σ τ) : flOk E σ R fl := h R σ (Ext.refl R) rfl A
end

section
variable {X : Cx} {cl : CL} {W : WX} {a b c e o v tg iter : Expr} {pos p2 p apos pos' : Pos} {ma mb mc me mo mv : M D} {rest es : List Expr} {ml mi : M (List D)} {ka : M Bool} {x : Str} {P : Pg} {st : Stmt} {sts sa sb body : List Stmt} {ms mr : M Fl} {tgD : Gc.TG}
theorem ss_pass : SS X cl W (.Pass pos) (M.pure .nx) := PS.weak ps_pass fun E σ H ⟨R, τ, hH, A, h⟩ => by subst hH; exact rdS_pure h A
theorem ss_brk : SS X cl W (.Break pos) (M.pure .bk) := PS.weak ps_break fun E σ H ⟨R, τ, hH, A, h⟩ => by subst hH; exact rdS_pure h A
theorem ss_cnt : SS X cl W (.Continue pos) (M.pure .ct) := PS.weak ps_continue fun E σ H ⟨R, τ, hH, A, h⟩ => by subst hH; exact rdS_pure h A
theorem ss_doc {y : Str} {j : Nat} : SS X cl W (.Expr (.Constant (.str y) j p) pos) (M.pure .nx) := PS.weak ps_doc fun E σ H ⟨R, τ, hH, A, h⟩ => by subst hH; exact rdS_pure h A
theorem sss_nil : SSs X cl W [] (M.pure .nx) := PSs.weak pss_nil fun E σ H ⟨R, τ, hH, A, h⟩ => by subst hH; exact rdS_pure h A
theorem sss_cons (h1 : SS X cl W st ms) (h2 : SSs X cl W sts mr) : SSs X cl W (st :: sts) (thenM ms mr) := by
  refine PSs.weak (pss_cons h1 h2) fun E σ H ⟨R, τ, hH, A, h⟩ => ?_
  refine ⟨R, τ, hH, A, rdS_then h (fun R1 σ1 τ1 x A1 k => ⟨R1, τ1, rfl, A1, k⟩) (fun R1 σ1 τ1 x A1 k => rdS_pure k A1) (fun R1 σ1 τ1 x A1 k => rdS_pure k A1) (fun R1 σ1 τ1 d v x A1 r k => rdS_pure k A1 v r)⟩
/-- no comprehension -/
def notLc : Expr → Bool
  | .ListComp _ _ _ _ | .SetComp _ _ _ _ | .DictComp _ _ _ _ _ => false
  | _ => true
theorem sw_not (h : notLc e = true) (t : Option Expr) (l : Nat) (env : Env) : swapsWith e t l env = pure false := by
  cases e <;> first | rfl | cases h
theorem ss_expr (hn : notLc e = true) (he : SE X cl W e me) : SS X cl W (.Expr e pos) (M.bind me fun _ => M.pure .nx) := by
  refine PS.weak (ps_expr he (sw_not hn _ _ _)) fun E σ H ⟨R, τ, hH, A, h⟩ => ⟨R, τ, hH, A, rdAt_mono (rdS_bind (rel := relD) h) fun v H1 ⟨R1, τ1, d, e1, x1, A1, r1, h1⟩ => ?_⟩
  subst e1
  exact rdS_pure h1 A1
theorem ss_ret (he : SE X cl W e me) : SS X cl W (.Return (some e) pos) (M.bind me fun d => M.pure (.rt d)) := by
  refine PS.weak (ps_ret he) fun E σ H ⟨R, τ, hH, A, h⟩ => ⟨R, τ, hH, A, rdAt_mono (rdS_bind (rel := relD) h) fun v H1 ⟨R1, τ1, d, e1, x1, A1, r1, h1⟩ => ?_⟩
  subst e1
  exact rdS_pure h1 A1 v r1
theorem ss_retN : SS X cl W (.Return none pos) (M.pure (.rt .non)) := PS.weak ps_retN fun E σ H ⟨R, τ, hH, A, h⟩ => by subst hH; exact rdS_pure h A _ rep_non
theorem ss_if (hc : ST X cl W c ka) (ha : SSs X cl W sa ms) (hb : SSs X cl W sb mr) : SS X cl W (.If c sa sb pos) (M.bind ka fun k => if k then ms else mr) := by
  refine PS.weak (ps_if hc ha hb) fun E σ H ⟨R, τ, hH, A, h⟩ => ⟨R, τ, hH, A, rdAt_mono (rdS_bind (rel := relB) h) fun k H1 ⟨R1, τ1, d, e1, x1, A1, r1, h1⟩ => ?_⟩
  subst e1
  subst r1
  cases k with
  | true => exact ⟨R1, τ1, rfl, A1, h1⟩
  | false => exact ⟨R1, τ1, rfl, A1, h1⟩
/-- the store behind a value -/
theorem store_read {R1 : RC} {σ : St} {τ1 : List (Option D)} {d : D} {v : V} {E : Ends} (A1 : At X.K cl R1 σ τ1) (r1 : Rep R1 v d) (h : rdSAt X.K cl W R1 τ1 (M.bind (bindT tgD d) fun _ => M.pure .nx) E) : gOf X.K tgD v σ R1.H E.nx := by
  unfold rdSAt M.bind at h
  cases q : bindT tgD d ⟨τ1, R1.S⟩ with
  | bad => rw [q] at h; exact h.elim
  | exn c ns xs s =>
    exfalso
    have nx : ∀ (is : List Nat) (ds : List D) (s0 : MS), setVs is ds s0 ≠ .exn c ns xs s := by
      intro is
      induction is with
      | nil => intro ds s0 z; cases ds <;> cases z
      | cons i is ih =>
        intro ds s0 z
        cases ds with
        | nil => cases z
        | cons d ds => exact ih ds _ z
    cases tgD with
    | one i => cases q
    | tup is =>
      cases d with
      | tup ys =>
        have q' : (if ys.length = is.length then setVs is ys else bad) ⟨τ1, R1.S⟩ = .exn c ns xs s := q
        split at q'
        · exact nx _ _ _ q'
        · cases q'
      | lst ys =>
        have q' : (if ys.length = is.length then setVs is ys else bad) ⟨τ1, R1.S⟩ = .exn c ns xs s := q
        split at q'
        · exact nx _ _ _ q'
        · cases q'
      | _ => cases q
  | ok u s =>
    rw [q] at h
    dsimp only at h
    exact bindT_read A1 r1 q fun σ' A' e' but => h R1 σ' (Ext.refl _) e'.symm A'
theorem asg_read {E : Ends} {σ : St} {H : Hp} (h : rdS X.K cl W (M.bind me fun d => M.bind (bindT tgD d) fun _ => M.pure .nx) E σ H) : tAsg (rd relD X.K cl W me) (gOf X.K tgD) E σ H := by
  obtain ⟨R, τ, hH, A, h⟩ := h
  refine ⟨R, τ, hH, A, rdAt_mono (rdS_bind (rel := relD) h) fun v H1 ⟨R1, τ1, d, e1, x1, A1, r1, h1⟩ => ?_⟩
  subst e1
  exact store_read A1 r1 h1
theorem ss_set {i : Nat} (hN : X.N.Nodup) (hi : X.N[i]? = some x) (hx : Loc X.env.scope x) (hf : X.fn x = true ∨ X.env.scope.names.lookup x = some .local) (hs : swapsWith e (some (.Name x p)) pos.line X.env = pure false) (he : SE X cl W e me) :
    SS X cl W (.Assign [.Name x p] e pos) (M.bind me fun d => M.bind (bindT (.one i) d) fun _ => M.pure .nx) := PS.weak (ps_set hN hi hx he hs hf) fun E σ H h => asg_read (tgD := .one i) h
/-- (a, b, ..) = e, the value no display of as many -/
theorem ss_unp {tpos : Pos} {kk : Nat} {ts : List Expr} {is : List Nat} (ht : TgE X (.Tuple ts kk tpos) (.tup is)) (hn : notLc e = true) (hw : swappedStores [.Tuple ts kk tpos] e X.env = pure none) (he : SE X cl W e me) :
    SS X cl W (.Assign [.Tuple ts kk tpos] e pos) (M.bind me fun d => M.bind (bindT (.tup is) d) fun _ => M.pure .nx) :=
  PS.weak (ps_asg he ht (show swapsWith e (some (.Tuple ts kk tpos)) pos.line X.env = pure false from sw_not hn _ _ _) hw rfl) fun E σ H h => asg_read (tgD := .tup is) h
/-- for -/
theorem Rs_cases {α : Type} (r : Rs α) : (∃ a s, r = .ok a s) ∨ (∃ c ns xs s, r = .exn c ns xs s) ∨ r = .bad := by
  cases r with
  | ok a s => exact .inl ⟨a, s, rfl⟩
  | exn c ns xs s => exact .inr (.inl ⟨c, ns, xs, s, rfl⟩)
  | bad => exact .inr (.inr rfl)
theorem ss_for (hp : PassesOwn (model X.prog X.w) X.A X.env X.xe) (hc : X.calm = true) (hset : notSet iter = true) (hi : SI X cl W tg iter mi) (ht : TgE X tg tgD) (hb : SSs X cl W body ms) :
    SS X cl W (.For tg iter body [] pos) (M.bind mi fun src => forL (fun x => M.bind (bindT tgD x) fun _ => ms) src) := by
  refine PS.weak (ps_for hp hc hi ht hb (fun x => notSet_folded hset _ x)) fun E σ H ⟨R, τ, hH, A, h⟩ => ⟨R, τ, hH, A, ?_⟩
  unfold rdSAt M.bind at h
  cases q : mi ⟨τ, R.S⟩ with
  | bad => rw [q] at h; exact h
  | exn c ns xs s => rw [q] at h; exact fun R' cls dd x e A r => h R' σ cls dd x e A r
  | ok src s =>
    rw [q] at h
    dsimp only at h ⊢
    intro J R1 x1 e1 A1 goes
    have es : s = ⟨s.τ, R1.S⟩ := by rw [e1]
    generalize hT : (fun x => M.bind (bindT tgD x) fun _ => ms) = turn at h
    have h0 : rdSAt X.K cl W R1 s.τ (forL turn src) E := by
      unfold rdSAt
      rw [← es]
      split at h
      · exact fun R' σ' x' e' A' => h R' σ' (x1.trans x') e' A'
      · exact fun R' σ' cls dd x' e' A' r' => h R' σ' cls dd (x1.trans x') e' A' r'
      · exact h
    refine ⟨fun i m σ H => m = src.length - i ∧ i ≤ src.length ∧ ∃ R2 τ2, R2.H = H ∧ At X.K cl R2 σ τ2 ∧ Go R1 R2 ∧ rdSAt X.K cl W R2 τ2 (forL turn (src.drop i)) E, ⟨src.length, by simp, Nat.zero_le _, R1, s.τ, rfl, A1, Go.refl _, by rw [List.drop_zero]; exact h0⟩, ?_⟩
    rintro i m σ2 H ⟨rfl, hil, R2, τ2, hH2, A2, g2, run⟩
    subst hH2
    obtain ⟨hgo, hstop⟩ := goes R2 g2 A2.cells i
    by_cases hlt : i < src.length
    · have hd : src[i]? = some src[i] := List.getElem?_eq_getElem hlt
      obtain ⟨go, yld⟩ := hgo _ hd
      rw [List.drop_eq_getElem_cons hlt] at run
      refine .inr ⟨go, fun σ' H' => ∃ R4 τ4, R4.H = H' ∧ At X.K cl R4 σ' τ4 ∧ Go R1 R4 ∧ rdSAt X.K cl W R4 τ4 (forL turn (src.drop (i + 1))) E, fun σ' H' ⟨R4, τ4, z1, z2, z3, z4⟩ => ⟨src.length - (i + 1), by omega, rfl, hlt, R4, τ4, z1, z2, z3, z4⟩, fun x H' y => ?_⟩
      obtain ⟨R3, eH, x3, eS, C3, r3⟩ := yld x H' y
      subst eH
      have A3 : At X.K cl R3 σ2 τ2 := ⟨x3.K.trans A2.K, x3.cl.trans A2.cl, C3, A2.slots.ext x3⟩
      have run3 : rdSAt X.K cl W R3 τ2 (forL turn (src[i] :: src.drop (i + 1))) E := by
        unfold rdSAt at run ⊢
        rw [eS]
        split at run
        · exact fun R' σ' x' e' A' => run R' σ' (x3.trans x') e' A'
        · exact fun R' σ' cls dd x' e' A' r' => run R' σ' cls dd (x3.trans x') e' A' r'
        · exact run
      have run4 : rdSAt X.K cl W R3 τ2 (M.bind (bindT tgD src[i]) fun _ => M.bind ms (forK (forL turn (src.drop (i + 1))))) E := by
        have e4 : forL turn (src[i] :: src.drop (i + 1)) = M.bind (bindT tgD src[i]) fun _ => M.bind ms (forK (forL turn (src.drop (i + 1)))) := by
          show M.bind (turn src[i]) _ = _
          rw [← hT, M.bind_assoc]
        rw [← e4]
        exact run3
      unfold rdSAt M.bind at run4
      cases q4 : bindT tgD src[i] ⟨τ2, R3.S⟩ with
      | bad => rw [q4] at run4; exact run4.elim
      | exn c ns xs z => exact (by
          exfalso
          have := store_read (X := X) (W := W0) (E := ⟨fun _ _ => True, fun _ _ => True, fun _ _ => True, fun _ _ => True⟩) A3 r3 (tgD := tgD)
          have nx : ∀ (is : List Nat) (ds : List D) (s0 : MS), setVs is ds s0 ≠ .exn c ns xs z := by
            intro is
            induction is with
            | nil => intro ds s0 z; cases ds <;> cases z
            | cons i is ih =>
              intro ds s0 z
              cases ds with
              | nil => cases z
              | cons d ds => exact ih ds _ z
          cases tgD with
          | one i => cases q4
          | tup is =>
            generalize src[i] = dd at q4
            cases dd with
            | tup ys =>
              have q' : (if ys.length = is.length then setVs is ys else bad) ⟨τ2, R3.S⟩ = .exn c ns xs z := q4
              split at q'
              · exact nx _ _ _ q'
              · cases q'
            | lst ys =>
              have q' : (if ys.length = is.length then setVs is ys else bad) ⟨τ2, R3.S⟩ = .exn c ns xs z := q4
              split at q'
              · exact nx _ _ _ q'
              · cases q'
            | _ => cases q4)
      | ok u s4 =>
        rw [q4] at run4
        dsimp only at run4
        refine bindT_read A3 r3 q4 fun σ' A' e' but => ⟨R3, s4.τ, rfl, A', ?_⟩
        have run5 : rdSAt X.K cl W R3 s4.τ (M.bind ms (forK (forL turn (src.drop (i + 1))))) E := by
          unfold rdSAt M.bind
          rw [show (⟨s4.τ, R3.S⟩ : MS) = s4 from by rw [← e']]
          exact run4
        exact rdS_then run5 (fun R5 σ5 τ5 x5 A5 k => ⟨R5, τ5, rfl, A5, (g2.trans x3.go).trans x5.go, k⟩) (fun R5 σ5 τ5 x5 A5 k => rdS_pure k A5) (fun R5 σ5 τ5 x5 A5 k => ⟨R5, τ5, rfl, A5, (g2.trans x3.go).trans x5.go, k⟩) (fun R5 σ5 τ5 d v x5 A5 r k => rdS_pure k A5 v r)
    · have ei : i = src.length := by omega
      subst ei
      rw [List.drop_length] at run
      exact .inl ⟨hstop (Nat.le_refl _), rdS_pure run A2⟩
/-- while -/
theorem ss_while {n : Nat} (hp : PassesOwn (model X.prog X.w) X.A X.env X.xe) (hc : ST X cl W c ka) (hb : SSs X cl W body ms) : SS X cl W (.While c body [] pos) (whlL ka ms n) := by
  refine PS.weak (ps_while hp hc hb) fun E σ H ⟨R, τ, hH, A, h⟩ => ?_
  refine ⟨fun m σ H => ∃ R τ, R.H = H ∧ At X.K cl R σ τ ∧ rdSAt X.K cl W R τ (whlL ka ms m) E, ⟨n, R, τ, hH, A, h⟩, fun m σ H ⟨R, τ, hH, A, h⟩ => ⟨R, τ, hH, A, ?_⟩⟩
  cases m with
  | zero => exact h.elim
  | succ m =>
    refine rdAt_mono (rdS_bind (rel := relB) h) fun k H1 ⟨R1, τ1, d, e1, x1, A1, r1, h1⟩ => ?_
    subst e1
    subst r1
    cases k with
    | false =>
      rw [if_neg Bool.false_ne_true]
      rw [if_neg Bool.false_ne_true] at h1
      exact rdS_pure h1 A1
    | true =>
      rw [if_pos rfl]
      rw [if_pos rfl] at h1
      refine ⟨fun σ' H' => ∃ R τ, R.H = H' ∧ At X.K cl R σ' τ ∧ rdSAt X.K cl W R τ (whlL ka ms m) E, fun σ' H' z => ⟨m, Nat.lt_succ_self m, z⟩, R1, τ1, rfl, A1, ?_⟩
      exact rdS_then h1 (fun R5 σ5 τ5 x5 A5 k => ⟨R5, τ5, rfl, A5, k⟩) (fun R5 σ5 τ5 x5 A5 k => rdS_pure k A5) (fun R5 σ5 τ5 x5 A5 k => ⟨R5, τ5, rfl, A5, k⟩) (fun R5 σ5 τ5 d v x5 A5 r k => rdS_pure k A5 v r)
/-! ### slots are emptied -/
theorem Slots.wiped {R : RC} {σ : St} {τ : List (Option D)} (h : Slots R σ τ) : ∀ ws : List Nat, Slots R σ (wipeT ws τ)
  | [] => h
  | i :: ws => by
    have ih := Slots.wiped h ws
    unfold wipeT
    refine ⟨by rw [List.length_set]; exact ih.1, fun j d e => ?_⟩
    by_cases hj : i = j
    · subst hj
      by_cases hl : i < (wipeT ws τ).length
      · rw [List.getElem?_set_self hl] at e; cases e
      · rw [List.getElem?_eq_none (by rw [List.length_set]; omega)] at e; cases e
    · rw [List.getElem?_set_ne hj] at e
      exact ih.2 j d e
theorem At.wiped {K : PySem.W.Frag} {R : RC} {σ : St} {τ : List (Option D)} (A : At K cl R σ τ) (ws : List Nat) : At K cl R σ (wipeT ws τ) := ⟨A.K, A.cl, A.cells, A.slots.wiped ws⟩
theorem rdS_wipeA {K : PySem.W.Frag} {m : M Fl} {ws : List Nat} {E : Ends} {σ : St} {H : Hp} (h : rdS K cl W (wipeA ws m) E σ H) : rdS K cl W m E σ H := by
  obtain ⟨R, τ, hH, A, h⟩ := h
  refine ⟨R, τ, hH, A, ?_⟩
  unfold rdSAt wipeA at h
  unfold rdSAt
  cases q : m ⟨τ, R.S⟩ with
  | ok fl s => rw [q] at h; exact fun R' σ' x e A' => h R' σ' x e (A'.wiped ws)
  | exn c ns xs s => rw [q] at h; exact h
  | bad => rw [q] at h; exact h
theorem rdS_wipeM {K : PySem.W.Frag} {m : M Fl} {ws : List Nat} {E : Ends} {σ : St} {H : Hp} (h : rdS K cl W (M.bind (wipeM ws) fun _ => m) E σ H) : rdS K cl W m E σ H := by
  obtain ⟨R, τ, hH, A, h⟩ := h
  exact ⟨R, wipeT ws τ, hH, A.wiped ws, h⟩
theorem sss_wipeA {ws : List Nat} (hb : SSs X cl W body ms) : SSs X cl W body (wipeA ws ms) := PSs.weak hb fun E σ H h => rdS_wipeA h
theorem ss_wipeM {ws : List Nat} {st : Stmt} {m : M Fl} (hb : SS X cl W st m) : SS X cl W st (M.bind (wipeM ws) fun _ => m) := PS.weak hb fun E σ H h => rdS_wipeM h
end
end Gc

end

section
set_option Elab.async false
set_option linter.all false
set_option maxRecDepth 100000
set_option maxHeartbeats 1000000
/-! the interpreter is sound: stores -/
namespace Gc
open PySem PySem.Spec L2
section
variable {X : Cx} {cl : CL} {W : WX} {a b c e o v tg iter : Expr} {pos p2 p apos pos' : Pos} {ma mb mc me mo mv mk : M D} {rest es : List Expr} {ml mi : M (List D)} {ka : M Bool} {x : Str} {P : Pg} {st : Stmt} {sts sa sb body : List Stmt} {ms mr : M Fl} {tgD : Gc.TG}
/-- a, b = x, y -/
theorem ss_par {i j : Nat} {y : Str} {px py pt : Pos} {kt k2 pt2} (hc : X.calm = true) (hN : X.N.Nodup) (hi : X.N[i]? = some x) (hj : X.N[j]? = some y) (hij : i ≠ j) (hx : X.env.scope.names.lookup x = some .local) (hy : X.env.scope.names.lookup y = some .local)
    (ha : SA X cl W [a, b] ml) (hw : swappedStores [.Tuple [.Name x px, .Name y py] kt pt] (.Tuple [a, b] k2 pt2) X.env = pure (some [x, y])) :
    SS X cl W (.Assign [.Tuple [.Name x px, .Name y py] kt pt] (.Tuple [a, b] k2 pt2) pos) (M.bind ml fun ds => M.bind (setVs [i, j] ds) fun _ => M.pure .nx) := by
  refine PS.weak (ps_par hc hN hi hj hij hx hy ha hw rfl) fun E σ H ⟨R, τ, hH, A, h⟩ => ⟨R, τ, hH, A, rdAt_mono (rdS_bind (rel := relL) h) fun vs H1 ⟨R1, τ1, ds, e1, x1, A1, r1, h1⟩ => ?_⟩
  subst e1
  cases ds with
  | nil => exact h1.elim
  | cons d1 ds =>
    cases ds with
    | nil => exact h1.elim
    | cons d2 ds =>
      cases ds with
      | cons d3 ds => exact h1.elim
      | nil =>
        unfold relL RepL at r1
        obtain ⟨v1, w, e1, ra, r1⟩ := r1
        unfold RepL at r1
        obtain ⟨v2, w2, e2, rb, r1⟩ := r1
        unfold RepL at r1
        subst e1 e2 r1
        exact ⟨v1, v2, rfl, h1 R1 ((σ.set i (some v1)).set j (some v2)) (Ext.refl _) rfl ⟨A1.K, A1.cl, A1.cells, (A1.slots.set ra).set rb⟩⟩
theorem ss_par3 {i j l : Nat} {y z : Str} {px py pz pt : Pos} {kt k2 pt2} (hc : X.calm = true) (hN : X.N.Nodup) (hi : X.N[i]? = some x) (hj : X.N[j]? = some y) (hl : X.N[l]? = some z) (hij : i ≠ j) (hil : i ≠ l) (hjl : j ≠ l)
    (hx : X.env.scope.names.lookup x = some .local) (hy : X.env.scope.names.lookup y = some .local) (hz : X.env.scope.names.lookup z = some .local)
    (ha : SA X cl W [a, b, c] ml) (hw : swappedStores [.Tuple [.Name x px, .Name y py, .Name z pz] kt pt] (.Tuple [a, b, c] k2 pt2) X.env = pure (some [x, y, z])) :
    SS X cl W (.Assign [.Tuple [.Name x px, .Name y py, .Name z pz] kt pt] (.Tuple [a, b, c] k2 pt2) pos) (M.bind ml fun ds => M.bind (setVs [i, j, l] ds) fun _ => M.pure .nx) := by
  refine PS.weak (ps_par3 hc hN hi hj hl hij hil hjl hx hy hz ha hw rfl) fun E σ H ⟨R, τ, hH, A, h⟩ => ⟨R, τ, hH, A, rdAt_mono (rdS_bind (rel := relL) h) fun vs H1 ⟨R1, τ1, ds, e1, x1, A1, r1, h1⟩ => ?_⟩
  subst e1
  cases ds with
  | nil => exact h1.elim
  | cons d1 ds =>
    cases ds with
    | nil => exact h1.elim
    | cons d2 ds =>
      cases ds with
      | nil => exact h1.elim
      | cons d3 ds =>
        cases ds with
        | cons d4 ds => exact h1.elim
        | nil =>
          unfold relL RepL at r1
          obtain ⟨v1, w, e1, ra, r1⟩ := r1
          unfold RepL at r1
          obtain ⟨v2, w2, e2, rb, r1⟩ := r1
          unfold RepL at r1
          obtain ⟨v3, w3, e3, rc, r1⟩ := r1
          unfold RepL at r1
          subst e1 e2 e3 r1
          exact ⟨v1, v2, v3, rfl, h1 R1 (((σ.set i (some v1)).set j (some v2)).set l (some v3)) (Ext.refl _) rfl ⟨A1.K, A1.cl, A1.cells, ((A1.slots.set ra).set rb).set rc⟩⟩
theorem cell_of {R : RC} {σ : St} {τ : List (Option D)} (A : At X.K cl R σ τ) {d : D} {v : V} {p : Nat × D} (r : Rep R v d) (h : cellOf R.S d = some p) : v = .ref (R.ρ p.1) ∧ R.S[p.1]? = some (some p.2) ∧ ∃ o, R.H (R.ρ p.1) = some o ∧ RepH R o p.2 := by
  cases d with
  | ref n =>
    have h' : (R.S[n]?.join).map (fun e => (n, e)) = some p := h
    cases q : R.S[n]? with
    | none => rw [q] at h'; cases h'
    | some z =>
      cases z with
      | none => rw [q] at h'; cases h'
      | some e =>
        rw [q] at h'
        cases h'
        unfold Rep at r
        exact ⟨r.1, q, A.cells.cell n e q⟩
  | _ => cases h
/-- a cell is written, then what is to come -/
theorem cellSet_at {R : RC} {σ : St} {τ : List (Option D)} (A : At X.K cl R σ τ) {n : Nat} {o : HO} {d e : D} (h : R.S[n]? = some (some e)) (r : RepH R o d) : At X.K cl (R.cellSet n o d) σ τ :=
  ⟨A.K, A.cl, A.cells.cellSet h r, A.slots.ext (Ext.cellSet h)⟩
/-- o[i] = e -/
theorem ss_put (hn : notLc e = true) (he : SE X cl W e me) (ho : SE X cl W o mo) (hk : SE X cl W b mk)
    (ha : ∀ v, assign (.Subscript o b p) X.env v = (do
      let ov ← holding [v] (eval o X.env)
      let iv ← holding [v, ov] (eval b X.env)
      standAt p
      holding [v, ov, iv] (setItem ov iv v)
      release [v, ov, iv] [])) :
    SS X cl W (.Assign [.Subscript o b p] e pos) (M.bind me fun v => M.bind mo fun d => M.bind mk fun k => storeM fun S => putD S d k v) := by
  refine PS.weak (ps_asg he (pg_sub ho hk set_list ha) (show swapsWith e (some (.Subscript o b p)) pos.line X.env = pure false from sw_not hn _ _ _) rfl rfl) fun E σ H ⟨R, τ, hH, A, h⟩ => ⟨R, τ, hH, A, rdAt_mono (rdS_bind (rel := relD) h) fun v H1 ⟨R1, τ1, dv, e1, x1, A1, r1, h1⟩ => ?_⟩
  refine ⟨R1, τ1, e1, A1, rdAt_mono (rdS_bind (rel := relD) h1) fun ov H2 ⟨R2, τ2, dd, e2, x2, A2, r2, h2⟩ => ?_⟩
  refine ⟨R2, τ2, e2, A2, rdAt_mono (rdS_bind (rel := relD) h2) fun kv H3 ⟨R3, τ3, dk, e3, x3, A3, r3, h3⟩ => ?_⟩
  subst e3
  have rv := Rep.ext x3 (Rep.ext x2 r1)
  have rd := Rep.ext x3 r2
  unfold rdSAt storeM at h3
  dsimp only at h3
  cases q : putD R3.S dd dk dv with
  | none => rw [q] at h3; exact h3.elim
  | some S =>
    rw [q] at h3
    dsimp only at h3
    unfold putD at q
    cases qc : cellOf R3.S dd with
    | none => rw [qc] at q; cases q
    | some pr =>
      rw [qc] at q
      obtain ⟨n, ce⟩ := pr
      obtain ⟨ev, hS, ho, hh, rh⟩ := cell_of A3 rd qc
      subst ev
      cases ce with
      | lst xs =>
        cases dk with
        | int kk =>
          have q' : (ixN xs.length kk).map (fun j => R3.S.set n (some (.lst (xs.set j dv)))) = some S := q
          cases qj : ixN xs.length kk with
          | none => rw [qj] at q'; cases q'
          | some j =>
            rw [qj] at q'
            cases q'
            obtain ⟨vs, eo, rr⟩ := rh
            subst eo
            refine ⟨R3.ρ n, vs, kk, j, rfl, de_int r3, hh, by rw [rr.length]; exact qj, ?_⟩
            exact h3 (R3.cellSet n (.lst (vs.set j v)) (.lst (xs.set j dv))) σ (Ext.cellSet hS) rfl (cellSet_at A3 hS ⟨_, rfl, rr.set rv j⟩)
        | _ => cases q
      | _ => cases q
theorem putFD_rep {R : RC} {f : Str} {v : V} {d : D} (r : Rep R v d) : ∀ {fs : List (Str × V)} {ns : List Str} {xs : List D} {z : List Str × List D}, fs.map (·.1) = ns → RepL R (fs.map (·.2)) xs → putFD f d ns xs = some z →
    (putF f v fs).map (·.1) = z.1 ∧ RepL R ((putF f v fs).map (·.2)) z.2
  | [], ns, xs, z, e, rr, h => by
    subst e
    have ex : xs = [] := by
      cases xs with
      | nil => rfl
      | cons y ys => have := rr.length; simp at this
    subst ex
    cases h
    exact ⟨rfl, RepL.cons r RepL.nil⟩
  | (g, u) :: fs, ns, xs, z, e, rr, h => by
    subst e
    cases xs with
    | nil => have := rr.length; simp at this
    | cons y ys =>
      have rr' : RepL R (u :: fs.map (·.2)) (y :: ys) := rr
      unfold RepL at rr'
      obtain ⟨v0, w0, e0, ru, rw0⟩ := rr'
      obtain ⟨rfl, rfl⟩ := List.cons.inj e0
      have h' : (if g = f then some (g :: fs.map (·.1), d :: ys) else (putFD f d (fs.map (·.1)) ys).map fun p => (g :: p.1, y :: p.2)) = some z := h
      by_cases hg : g = f
      · rw [if_pos hg] at h'
        cases h'
        unfold putF
        rw [if_pos hg]
        exact ⟨rfl, RepL.cons r rw0⟩
      · rw [if_neg hg] at h'
        cases q : putFD f d (fs.map (·.1)) ys with
        | none => rw [q] at h'; cases h'
        | some z' =>
          rw [q] at h'
          cases h'
          obtain ⟨h1, h2⟩ := putFD_rep r rfl rw0 q
          unfold putF
          rw [if_neg hg]
          exact ⟨by simp only [List.map_cons, h1], RepL.cons ru h2⟩
/-- o.f = e -/
theorem ss_fld {f : Str} (kit : Kit X.K cl P) (hn : notLc e = true) (he : SE X cl W e me) (ho : SE X cl W o mo) :
    SS X cl W (.Assign [.Attribute o f p] e pos) (M.bind me fun v => M.bind mo fun d => storeM fun S => fldD P S d f v) := by
  refine PS.weak (ps_fld ho he (sw_not hn _ _ _)) fun E σ H ⟨R, τ, hH, A, h⟩ => ⟨R, τ, hH, A, rdAt_mono (rdS_bind (rel := relD) h) fun v H1 ⟨R1, τ1, dv, e1, x1, A1, r1, h1⟩ => ?_⟩
  refine ⟨R1, τ1, e1, A1, rdAt_mono (rdS_bind (rel := relD) h1) fun ov H2 ⟨R2, τ2, dd, e2, x2, A2, r2, h2⟩ => ?_⟩
  subst e2
  have rv := Rep.ext x2 r1
  unfold rdSAt storeM at h2
  dsimp only at h2
  cases q : fldD P R2.S dd f dv with
  | none => rw [q] at h2; exact h2.elim
  | some S =>
    rw [q] at h2
    dsimp only at h2
    unfold fldD at q
    cases qc : cellOf R2.S dd with
    | none => rw [qc] at q; cases q
    | some pr =>
      rw [qc] at q
      obtain ⟨n, ce⟩ := pr
      obtain ⟨ev, hS, ho, hh, rh⟩ := cell_of A2 r2 qc
      subst ev
      cases ce with
      | obj c ns xs =>
        simp only [Option.bind_some] at q
        split at q
        · rename_i hpl
          obtain ⟨hpl, hlen⟩ := Bool.and_eq_true_iff.mp hpl
          cases qcl : P.cl c with
          | none => rw [qcl] at q; cases q
          | some qq =>
            rw [qcl] at q
            simp only [Option.bind_some] at q
            split at q
            · rename_i hmem
              cases qz : putFD f dv ns xs with
              | none => rw [qz] at q; cases q
              | some z =>
                rw [qz] at q
                cases q
                obtain ⟨dx, fs, eo, en, rr⟩ := rh
                subst eo
                have hex : qq.exc = none := by
                  unfold plainCl at hpl
                  rw [qcl] at hpl
                  dsimp only at hpl
                  cases hq : qq.exc with
                  | none => rfl
                  | some _ => rw [hq] at hpl; cases hpl
                have hl30 : ns.length < 30 := of_decide_eq_true hlen
                have hlf : fs.length < 1000 := by
                  have : fs.length = ns.length := by rw [← en, List.length_map]
                  omega
                obtain ⟨h3, h4⟩ := putFD_rep rv en rr qz
                have cc : Cls X.K (R2.cl c) := by rw [A2.cl]; exact kit.cls c hpl
                have na : NoAttr X.K (R2.cl c) f := by rw [A2.cl]; exact kit.noat c qq f qcl hex hmem
                refine ⟨R2.ρ n, R2.cl c, dx, fs, rfl, hh, cc, na, hlf, ?_⟩
                exact h2 (R2.cellSet n (.ins (R2.cl c) dx (putF f v fs)) (.obj c z.1 z.2)) σ (Ext.cellSet hS) rfl (cellSet_at A2 hS ⟨dx, _, rfl, h3, h4⟩)
            · cases q
        · cases q
      | _ => cases q
end
section
variable {X : Cx} {cl : CL} {W : WX} {iter tg elt tg1 iter1 : Expr} {ifs ifs1 : List Expr} {scope : Scope} {pos spos py : Pos} {own : List (Str × Nat)} {mi mi1 : M (List D)} {mt mt1 : M Bool} {me : M D} {tgD tgD1 : Gc.TG} {y : Str} {i : Nat}
/-- name = [..] that swaps -/
theorem ss_setLc {md : Nat} (hc : X.calm = true) (hN : X.N.Nodup) (hy : X.N[i]? = some y) (hyl : X.env.scope.names.lookup y = some .local) (hsw : swapsWith (.ListComp elt [⟨tg, iter, ifs, 0⟩] scope pos) (some (.Name y py)) spos.line X.env = pure true)
    (hi : SI X cl W tg iter mi) (ok : BlkOk X.N X.env.scope scope own) (hset : notSet iter = true)
    (htg : ∀ (s : Shared) (H : Hp) (C : Addr) (cll : List (Str × Addr)) (fp : List Addr), TgE (X.blk s H scope (compEnvC scope cll C X.env) fp) tg tgD) (hsub : ∀ i ∈ tgD.slots, i ∈ own.map (·.2))
    (ht : ∀ (s : Shared) (H : Hp) (C : Addr) (cll : List (Str × Addr)) (fp : List Addr), PTs (X.blk s H scope (compEnvC scope cll C X.env) fp) ifs (rd relB X.K cl W0 mt))
    (he : ∀ (s : Shared) (H : Hp) (C : Addr) (cll : List (Str × Addr)) (fp : List Addr), SE (X.blk s H scope (compEnvC scope cll C X.env) fp) cl W0 elt me) :
    SS X cl W (.Assign [.Name y py] (.ListComp elt [⟨tg, iter, ifs, 0⟩] scope pos) spos) (M.bind (lcM (own.map (·.2)) tgD md mi mt me) fun d => M.bind (bindT (.one i) d) fun _ => M.pure .nx) :=
  PS.weak (ps_setLc (g := gOf X.K tgD) (te := rd relD X.K cl W0 me) hc hN hy hyl hsw hi ok htg ht he (fun x => notSet_folded hset _ x)) fun E σ H h => lc_read hsub (asg_read (tgD := .one i) h)
theorem ss_setLc2 {md : Nat} {ow1 : List Nat} (hc : X.calm = true) (hN : X.N.Nodup) (hy : X.N[i]? = some y) (hyl : X.env.scope.names.lookup y = some .local) (hsw : swapsWith (.ListComp elt [⟨tg, iter, ifs, 0⟩, ⟨tg1, iter1, ifs1, 0⟩] scope pos) (some (.Name y py)) spos.line X.env = pure true)
    (hi : SI X cl W tg iter mi) (ok : BlkOk X.N X.env.scope scope own) (hset : notSet iter = true) (hset1 : notSet iter1 = true) (ho : ∀ i ∈ ow1, i ∈ own.map (·.2))
    (htg : ∀ (s : Shared) (H : Hp) (C : Addr) (cll : List (Str × Addr)) (fp : List Addr), TgE (X.blk s H scope (compEnvC scope cll C X.env) fp) tg tgD) (hsub : ∀ i ∈ tgD.slots, i ∈ own.map (·.2))
    (ht : ∀ (s : Shared) (H : Hp) (C : Addr) (cll : List (Str × Addr)) (fp : List Addr), PTs (X.blk s H scope (compEnvC scope cll C X.env) fp) ifs (rd relB X.K cl W0 mt))
    (hi1 : ∀ (s : Shared) (H : Hp) (C : Addr) (cll : List (Str × Addr)) (fp : List Addr), SI (X.blk s H scope (compEnvC scope cll C X.env) fp) cl W0 tg1 iter1 mi1)
    (htg1 : ∀ (s : Shared) (H : Hp) (C : Addr) (cll : List (Str × Addr)) (fp : List Addr), TgE (X.blk s H scope (compEnvC scope cll C X.env) fp) tg1 tgD1) (hsub1 : ∀ i ∈ tgD1.slots, i ∈ ow1)
    (ht1 : ∀ (s : Shared) (H : Hp) (C : Addr) (cll : List (Str × Addr)) (fp : List Addr), PTs (X.blk s H scope (compEnvC scope cll C X.env) fp) ifs1 (rd relB X.K cl W0 mt1))
    (he : ∀ (s : Shared) (H : Hp) (C : Addr) (cll : List (Str × Addr)) (fp : List Addr), SE (X.blk s H scope (compEnvC scope cll C X.env) fp) cl W0 elt me) :
    SS X cl W (.Assign [.Name y py] (.ListComp elt [⟨tg, iter, ifs, 0⟩, ⟨tg1, iter1, ifs1, 0⟩] scope pos) spos) (M.bind (lc2M (own.map (·.2)) tgD md mi mt mi1 ow1 tgD1 mt1 me) fun d => M.bind (bindT (.one i) d) fun _ => M.pure .nx) :=
  PS.weak (ps_setLc2 (g := gOf X.K tgD) (g1 := gOf X.K tgD1) (wi1 := rdI X.K cl W0 mi1) (te := rd relD X.K cl W0 me) hc hN hy hyl hsw hi ok ho htg ht hi1 htg1 ht1 he (fun x => notSet_folded hset _ x) (fun env x => notSet_folded hset1 env x)) fun E σ H h => lc2_read hsub hsub1 ho (asg_read (tgD := .one i) h)
end
end Gc

end

section
set_option Elab.async false
set_option linter.all false
set_option maxRecDepth 100000
set_option maxHeartbeats 1000000
/-! own errors are raised -/
namespace Gc
open PySem PySem.Spec L2

/-- G.__init__ is ValueError's -/
structure GI (K : PySem.W.Frag) (G : Addr) : Prop where
  ga : PySem.W.specialIn K (.ref G) "__getattribute__" = some (some (.builtin "type.__getattribute__"))
  rd : PySem.W.readsIn K G (.type "type") = true
  fi : PySem.W.findCls K (.ref G) (.type "type") "__init__" = some (.val (.builtin "ValueError.__init__"))
section
variable {X : Cx} {e : Expr} {es : List Expr} {ta : TA} {p1 p2 pos : Pos} {g : Str} {G : Addr}
theorem pe_ginit (T : GI X.K G) (hg : Gl X g) (hm : X.mg g = some (.ref G)) (hdb : (g == ("__debug__" : Str)) = false) (hs : noStars (e :: es) = true) (hn : (e :: es).length < 30) (hline : (p2.endLine == pos.line) = true) (ha : PA X (e :: es) ta) :
    PE X (.Call (.Attribute (.Name g p1) "__init__" p2) (e :: es) [] pos) (tVeI X.K ta) := by
  obtain ⟨h1, h2⟩ := Bool.and_eq_true_iff.mp (show (notStar e && noStars es) = true from hs)
  refine ⟨fun pins s σ H Q I h => ?_⟩
  refine PySem.W.methodCall_KW (pl := plOf (.Name g p1) X.env) (ld_glob I hg hm ?_ hdb) (meth_eq rfl hs hn hline)
  refine PySem.W.method_cls I.kIn T.ga (PySem.W.cls_value I.kIn T.rd T.fi (by decide +kernel) ?_)
  show wpAny _ _ (callWith pos (Value.builtin "ValueError.__init__") [] (backTo pos (starEach (e :: es) X.env)) []) _ _ _
  refine PyProof.Rows.callWith_method1 (thn (ha.run pos pins _ σ H _ (I.tok _) h) fun us s1 ⟨vs, H1, I1, r1, a, C, ws, ev, hl, T, ea, q⟩ => ?_) (star_plain h1 _) (stars_plain h2 _ _)
  subst ev
  cases r1 with
  | @cons _ u0 _ ur ra rw' =>
    obtain rfl : u0 = Value.ref a := ra
    have hlen : ur.length ≤ sizeLine := by
      rw [← Paired.length rw', sizeLine_eq]
      omega
    exact oinit_ok T I1 ea hlen fun s' J => ⟨.non, H1, J, rfl, q⟩
end

/-! ### an __init__ with one attribute -/
/-- the body: G.__init__(self, text); self.f = given -/
def xBody1 (g s f v txt : Str) (j : Nat) (p : Nat → Pos) : List Stmt :=
  [.Expr (.Call (.Attribute (.Name g (p 0)) "__init__" (p 1)) [.Name s (p 2), .Constant (.str txt) j (p 3)] [] (p 4)) (p 5), .Assign [.Attribute (.Name s (p 6)) f (p 7)] (.Name v (p 8)) (p 9)]
def spX1 (C : Addr) (f : Str) : Sp := fun vs H Q _ => ∃ a v, vs = [.ref a, v] ∧ H a = some (exo a C none) ∧ ∀ dx, H dx = none → dx ≠ a → Q .non (L2.upd (L2.upd H dx (exd dx [(f, v)])) a (exo a C (some dx)))
theorem fn_x1 {P : Program} {w : World} {K : PySem.W.Frag} {mg : Str → Option Value} {base : Heap} {k : Nat} {fI C G : Addr} {name qual : Str} {params : Arguments} {scope : Scope} {dV kV doc pm cdv ct oc : Value} {an od : Option Addr} {osl : Array (Option Value)}
    {g s f v txt : Str} {j : Nat} {p : Nat → Pos} (lk : K.lookup fI = some ⟨oc, od, .func (PySem.W.fnOf name qual params (xBody1 g s f v txt j p) scope dV kV doc pm an cdv ct), osl⟩) (hcd : PySem.W.codeIn K cdv qual = true) (S : FnScope [s, v] [s, v] scope)
    (hsl : scope.names.lookup s = some .local) (hvl : scope.names.lookup v = some .local) (hgl : scope.names.lookup g = some .globalImplicit) (T : OexC K C) (hno : PySem.W.findIn K (.ref C) f = some none) (TG : GI K G) (hm : mg g = some (.ref G))
    (hline : ((p 1).endLine == (p 4).line) = true) (d1 : (s == ("__debug__" : Str)) = false) (d2 : (s == ("__classdict__" : Str)) = false) (d3 : (v == ("__debug__" : Str)) = false) (d4 : (v == ("__classdict__" : Str)) = false) (d5 : (g == ("__debug__" : Str)) = false) :
    FnOk P w K mg base (CX P w) (k + 1) fI (PySem.W.fnOf name qual params (xBody1 g s f v txt j p) scope dV kV doc pm an cdv ct) [s, v] (spX1 C f) := by
  refine fn_of lk hcd S (fun vs H Q E ⟨a, u, e, _⟩ => by rw [e]; rfl) fun A outer st H vs Q E hr ⟨a, u, e, ha, q⟩ => ?_
  subst e
  generalize hX : cxOf (CX P w) P w K mg base [s, v] qual scope fI cdv A outer st H E = X
  have eN : X.N = [s, v] := by rw [← hX]; rfl
  have eS : X.env.scope = scope := by rw [← hX]; rfl
  have eK : X.K = K := by rw [← hX]; rfl
  have eM : X.mg = mg := by rw [← hX]; rfl
  have v1 : PE X (.Name s (p 2)) (tVar 0) := pe_var (by rw [eN]; rfl) (by rw [eS]; exact .inl hsl) d1 d2
  have v1' : PE X (.Name s (p 6)) (tVar 0) := pe_var (by rw [eN]; rfl) (by rw [eS]; exact .inl hsl) d1 d2
  have v2 : PE X (.Name v (p 8)) (tVar 1) := pe_var (by rw [eN]; rfl) (by rw [eS]; exact .inl hvl) d3 d4
  have ca : PA X [.Name s (p 2), .Constant (.str txt) j (p 3)] _ := pa_cons v1 (pa_cons pe_str pa_nil (star_plain rfl _)) (star_plain rfl _)
  have gi := pe_ginit (X := X) (e := .Name s (p 2)) (es := [.Constant (.str txt) j (p 3)]) (p1 := p 0) (p2 := p 1) (pos := p 4) (by rw [eK]; exact TG) (show Gl X g from by show X.env.scope.names.lookup g = _; rw [eS]; exact hgl) (by rw [eM]; exact hm) d5 rfl (show (2 : Nat) < 30 by decide) hline ca
  refine ⟨_, pss_cons (ps_expr gi rfl) (pss_one (ps_ost (f := f) (p' := p 7) (pos := p 9) v1' v2 rfl)), ?_⟩
  refine ⟨.ref a, rfl, ?_⟩
  refine ⟨a, C, [.str txt], rfl, (show (1 : Nat) ≤ 1000 by decide), by rw [eK]; exact T, ha, ?_⟩
  refine ⟨u, rfl, .ref a, rfl, a, C, rfl, by rw [eK]; exact T, by rw [eK]; exact hno, .inl ⟨ha, fun dx hd hne => q dx hd hne⟩⟩
/-- how an error's class stands -/
def XcH (prog : Program) (w : World) (K : PySem.W.Frag) (mg : Str → Option Value) (base : Heap) (cl : CL) (k c : Nat) (f : Str) : Prop :=
  ∃ fI fd ps, OexC K (cl c) ∧ PySem.W.findIn K (.ref (cl c)) "__init__" = some (some (.ref fI)) ∧ PySem.W.typeIn K (.ref fI) = some (.type "function") ∧ FnOk prog w K mg base (CX prog w) k fI fd ps (spX1 (cl c) f) ∧ Binds K fd ps []
section
variable {X : Cx} {cl : CL} {W : WX} {e : Expr} {es : List Expr} {p pos pos' : Pos} {x : Str} {P : Pg} {c k : Nat} {f : Str} {ml : M (List D)} {q : Cl}
theorem ss_rse1 (hc : X.calm = true) (tk : Takes X W) (hq : P.cl c = some q) (hx : q.exc = some [f]) (XH : XcH X.prog X.w X.K X.mg X.base cl k c f) (hr : Room (k + 1) X.A) (hg : Gl X x) (hm : X.mg x = some (.ref (cl c))) (hdb : (x == ("__debug__" : Str)) = false)
    (hs : noStars [e] = true) (ha : SA X cl W [e] ml) : SS X cl W (.Raise (some (.Call (.Name x p) [e] [] pos)) none pos') (M.bind ml fun ds => rseM P c ds) := by
  obtain ⟨fI, fd, ps, T, iC, tI, F, hb⟩ := XH
  obtain ⟨h1, h2⟩ := Bool.and_eq_true_iff.mp (show (notStar e && noStars []) = true from hs)
  refine PS.weak (ps_raise hc tk (pmk_oex (dvs := []) (ds := []) T iC tI F hr hb .nil (fun pins σ H s er s' I cx => by
    obtain ⟨_, _, _, _, _, _, _, _, _, _, _, _, z⟩ := cx
    exact z.elim) hg hm ha hdb (star_plain h1 _) rfl)) fun E σ H ⟨R, τ, hH, A, h⟩ => ?_
  refine ⟨R, τ, hH, A, rdAt_mono (rdS_bind (rel := relL) h) fun vs H1 ⟨R1, τ1, ds, e1, x1, A1, r1, h1⟩ => ?_⟩
  subst e1
  unfold rdSAt rseM at h1
  rw [hq] at h1
  dsimp only at h1
  rw [hx] at h1
  dsimp only at h1
  split at h1
  · rename_i fl s q1
    split at q1 <;> cases q1
  · rename_i c' ns' xs' s' q1
    split at q1
    · rename_i hl
      cases q1
      cases ds with
      | nil => cases hl
      | cons d ds =>
        cases ds with
        | cons _ _ => cases hl
        | nil =>
          unfold relL RepL at r1
          obtain ⟨v, w0, e1, rv, r1⟩ := r1
          unfold RepL at r1
          subst e1 r1
          refine ⟨(show (1 : Nat) ≤ 1000 by decide), fun a ha => ⟨a, v, rfl, upd_same, fun dx hd hne => ⟨rfl, dx, [(f, v)], upd_same, by rw [upd_ne hne, upd_same], ?_, ?_⟩⟩⟩
          · rw [upd_ne hne] at hd; exact hd
          · have hd1 : R1.H dx = none := by rw [upd_ne hne] at hd; exact hd
            have eh : L2.upd (L2.del (L2.upd (L2.upd (L2.upd R1.H a (exo a (cl c) none)) dx (exd dx [(f, v)])) a (exo a (cl c) (some dx))) a) dx (.xd [(f, v)]) = (R1.upd dx (.xd [(f, v)])).H := by
              funext b
              show _ = L2.upd R1.H dx (.xd [(f, v)]) b
              by_cases hb : b = dx
              · rw [hb, upd_same, upd_same]
              · rw [upd_ne hb, upd_ne hb]
                by_cases hba : b = a
                · rw [hba, del_same, ha]
                · rw [del_ne hba, upd_ne hba, upd_ne hb, upd_ne hba]
            rw [eh]
            have xx : Ext R1 (R1.upd dx (.xd [(f, v)])) := Ext.new hd1
            refine h1 (R1.upd dx (.xd [(f, v)])) σ (.ref (cl c)) (some dx) xx rfl (A1.new hd1) ⟨by rw [show (R1.upd dx (.xd [(f, v)])).cl = R1.cl from rfl, A1.cl], .inr ⟨dx, [(f, v)], rfl, upd_same, A1.cells.nl hd1, rfl, RepL.cons (Rep.ext xx rv) RepL.nil⟩⟩
    · cases q1
  · exact h1.elim
end
end Gc

end

section
set_option Elab.async false
set_option linter.all false
set_option maxRecDepth 100000
set_option maxHeartbeats 1000000
/-! try with several clauses, each with or without a name -/
namespace Gc
open PySem PySem.Spec PyProof.Rows L2

def endN (io : Option Nat) (E : Ends) : Ends := match io with
  | none => E
  | some i => { nx := fun σ' H' => E.nx (σ'.set i none) H', rt := E.rt, bk := fun σ' H' => E.bk (σ'.set i none) H', ct := fun σ' H' => E.ct (σ'.set i none) H' }
def inN (io : Option Nat) (a : Addr) (σ : L2.St) : L2.St := match io with | none => σ | some i => σ.set i (some (.ref a))
abbrev HdL := List (Value × Option Nat × (Addr → Value → Option Addr → L2.TS))
/-- what the clauses wish of an exception, one after another -/
def wGen (K : PySem.W.Frag) (Wout : WX) (E : Ends) : HdL → WX
  | [] => Wout
  | (c, io, ts) :: r => fun cls d σ H => ∃ b, PySem.W.exmOne K cls c = some b ∧ (b = true → ∀ a, H a = none → ts a cls d (endN io E) (inN io a σ) H) ∧ (b = false → wGen K Wout E r cls d σ H)
/-- a clause's name -/
def NmOk (X : Cx) (on : Option Str) (io : Option Nat) : Prop := match on, io with
  | none, none => True
  | some n, some i => X.N[i]? = some n ∧ X.env.kindOf n = some .local
  | _, _ => False
inductive HdG (X : Cx) : List ExceptHandler → HdL → Prop
  | nil : HdG X [] []
  | cons {x : Str} {c : Value} {on : Option Str} {io : Option Nat} {ts : Addr → Value → Option Addr → L2.TS} {b₀ : Stmt} {suite : List Stmt} {np pos' : Pos} {hds : List ExceptHandler} {l : HdL} (hc : Names X x c) (hn : NmOk X on io)
      (hsu : ∀ (a : Addr) (oe : Obj) (cls : Value) (d : Option Addr) (pn : List (Addr × Obj)), Zc cls d oe → (∃ vs, oe.data = .fields vs) → PSs (X.suite a ((a, oe) :: pn)) (b₀ :: suite) (ts a cls d)) (r : HdG X hds l) :
      HdG X (.ExceptHandler (some (.Name x np)) on (b₀ :: suite) pos' :: hds) ((c, io, ts) :: l)
section
variable {X : Cx} {body : List Stmt} {h₀ : ExceptHandler} {hds : List ExceptHandler} {l : HdL} {pos : Pos} {tb : WX → L2.TS} {Wout : WX}
theorem ps_try_gen (hs : X.stack = X.env :: X.outer) (hf : X.env.frame = some X.env.locals) (hN : X.N.Nodup) (tk : Takes X Wout)
    (hb : ∀ (W : WX) (pn : List (Addr × Obj)) (xe : Value → Shared → Prop), Takes (X.tr pn xe) W → PassesOwn (model X.prog X.w) X.A X.env xe → PSs (X.tr pn xe) body (tb W))
    (hh : HdG X (h₀ :: hds) l) : PS X (.Try body (h₀ :: hds) [] [] pos) (fun E σ H => tb (wGen X.K Wout E l) E σ H) := by
  refine ⟨fun pins s σ H E I h => ?_⟩
  have ok := I.ok
  have hfr : X.A.frames = some (X.env :: X.outer) := by rw [ok.frames, hs]
  refine wpAny_Try_except ?_
  refine wpAny_mono ((hb (wGen X.K Wout E l) (X.pn ++ pins) (fun e s₁ => wpAny (model X.prog X.w) X.A (noteFrame e X.env) (fun _ s₂ => wpAny (model X.prog X.w) X.A (setFlight e none) (fun _ s₃ =>
    wpAny (model X.prog X.w) X.A (handleBy e X.env (h₀ :: hds)) (SP X pins E) X.xe s₃) X.xe s₂) X.xe s₁) (fun u s' xx => ?_) PassesOwn.looking).run [] s σ H E (I.toTry _) h) (fun f s1 hsp => ?_) (fun e s1 he => he)
  · obtain ⟨a, B, sI, pins', σ', H', cls, d, rfl, J', nb, up, sky, na, os, ag, w⟩ := xx
    have J : Inv X pins σ' H' sI := J'.ofTry ok
    have sky' : Sky B (X.env :: X.outer) a (Zc cls d) X.env.locals s'.heap := by rw [← hs]; exact sky
    show wpAny (model X.prog X.w) X.A (noteFrame (.ref a) X.env) _ _ _
    refine Sky.land Zc.steady hfr hf sky' fun h3 fl3 up3 => ?_
    have J3 : Inv X pins σ' H' { s' with heap := h3 } := J.landed nb fl3.1 (up.trans up3) os ag
    obtain ⟨oe3, vs3, he3, hz3, hd3⟩ := fl3.there
    have nfr : a ∉ frs (X.env :: X.outer) := fun hm => by
      obtain ⟨_, o', e', hnf⟩ := fl3.2.2.1.mem hm
      rw [he3] at e'; cases e'
      exact hnf _ hd3
    have nL : a ≠ X.env.locals := fun z => nfr (List.mem_filterMap.mpr ⟨X.env, List.mem_cons_self, by rw [hf, z]⟩)
    have nF : a ∉ X.fs := fun hm => by
      obtain ⟨e, he, q⟩ := List.mem_filterMap.mp hm
      exact nfr (List.mem_filterMap.mpr ⟨e, List.mem_cons_of_mem _ he, q⟩)
    have S3 := J3.suite he3 hd3 na nL nF
    have go : ∀ {hds' : List ExceptHandler} {l' : HdL}, HdG X hds' l' → wGen X.K Wout E l' cls d σ' H' →
        wpAny (model X.prog X.w) X.A (handleBy (.ref a) X.env hds') (SP X pins E) X.xe { s' with heap := h3 } := by
      intro hds' l' hk
      induction hk with
      | nil =>
        intro w
        refine wpAny_handleBy_nil ?_
        obtain ⟨k1, k2, k3, oe, vs, T, oT, ts', he, hz, hd, h1, hr⟩ := id fl3
        unfold PySem.passOn
        refine wpAny_bind (wpAny_field he hd h1 ?_)
        rw [if_neg (show ¬ ((Value.ref T == Value.none) = true) from by simp)]
        have fin : wpAny (model X.prog X.w) X.A (setFlight (.ref a) X.env.frame) (fun _ s4 => wpAny (model X.prog X.w) X.A (throw (.ref a) : Sem Flow) (SP X pins E) X.xe s4) X.xe { s' with heap := h3 } := by
          rw [hf]
          refine HandSPX.setFlight_upZ fl3 fun h4 hh4 up4 => wpAny_throw (tk _ _ ?_)
          exact ⟨a, B, sI, pins, σ', H', cls, d, rfl, J, nb, (up.trans up3).trans up4, .inr (.inr (by rw [hs]; exact hh4)), na, os, ag, w⟩
        first
          | exact wpAny_bind (wpAny_pure (wpAny_bind fin))
          | exact wpAny_bind fin
      | @cons x c on io ts b₀ suite np pos' hds2 l2 hc hn hsu r ih =>
        intro w
        obtain ⟨b, hb1, hyes, hno⟩ := w
        refine wpAny_handleBy_cons (codeAny_handlers_test ?_) (by intro q; cases q)
        have LT : PySem.W.Looks (model X.prog X.w) h3 (typeOf (.ref a)) cls := fun A Q E s k q => wpAny_typeOf_ref (k _ _ he3) (by rw [hz3.1]; exact q)
        have LM := PySem.W.exm_one (M := model X.prog X.w) (J3.kIn) LT hb1
        have test : ∀ {Q : Value → Shared → Prop} {E : Value → Shared → Prop}, Q c { s' with heap := h3 } → wpAny (model X.prog X.w) (X.A.mark (some (.ref a))) (eval (.Name x np) X.env) Q E { s' with heap := h3 } := fun {Q E} q => by
          obtain ⟨hg, hdbg, hm | ⟨hm, hv, hnn⟩⟩ := hc
          · exact ld_glob (X := X.suite a ((a, oe3) :: (X.pn ++ pins))) S3 hg hm q hdbg
          · exact ld_blt (X := X.suite a ((a, oe3) :: (X.pn ++ pins))) S3 hg hm hv q hnn hdbg
        refine test (LM.here ?_)
        cases b with
        | false =>
          show wpAny _ X.A (handleBy (.ref a) X.env hds2) _ _ _
          exact ih (hno rfl)
        | true =>
          cases io with
          | none =>
            cases on with
            | some n => exact hn.elim
            | none =>
              refine codeAny_handlers_suite ?_
              refine HandSPX.lands_againZ fl3 fun h4 fl4 up4 => ?_
              have J4 : Inv X pins σ' H' { s' with heap := h4 } := J.landed nb fl4.1 ((up.trans up3).trans up4) os ag
              obtain ⟨oe4, vs4, he4, hz4, hd4⟩ := fl4.there
              have S4 := J4.suite he4 hd4 na nL nF
              refine wpAny_mono ((hsu a oe4 cls d (X.pn ++ pins) hz4 ⟨_, hd4⟩).run [] _ _ H' _ S4 (hyes rfl a na)) (fun f s6 hsp => ?_) (fun _ _ z => False.elim z)
              cases f with
              | next => obtain ⟨σ6, H6, S6, q6⟩ := hsp; exact ⟨_, _, S6.unsuite ok, q6⟩
              | brk => obtain ⟨σ6, H6, S6, q6⟩ := hsp; exact ⟨_, _, S6.unsuite ok, q6⟩
              | cont => obtain ⟨σ6, H6, S6, q6⟩ := hsp; exact ⟨_, _, S6.unsuite ok, q6⟩
              | ret u => obtain ⟨v6, σ6, H6, S6, r6, q6⟩ := hsp; exact ⟨_, _, _, S6.unsuite ok, r6, q6⟩
          | some i =>
            cases on with
            | none => exact hn.elim
            | some n =>
              obtain ⟨hi, hln⟩ := hn
              refine codeAny_handlers_suite_as ?_
              refine HandSPX.lands_againZ fl3 fun h4 fl4 up4 => ?_
              have J4 : Inv X pins σ' H' { s' with heap := h4 } := J.landed nb fl4.1 ((up.trans up3).trans up4) os ag
              obtain ⟨oe4, vs4, he4, hz4, hd4⟩ := fl4.there
              have S4 := J4.suite he4 hd4 na nL nF
              refine store_ok (X := X.suite a ((a, oe4) :: (X.pn ++ pins))) (v := .ref a) S4 hN hi (.inl hln) rfl (fun s5 S5 => ?_) (.inr hln)
              refine wpAny_mono ((hsu a oe4 cls d (X.pn ++ pins) hz4 ⟨_, hd4⟩).run [] s5 _ H' _ S5 (hyes rfl a na)) (fun f s6 hsp => ?_) (fun _ _ z => False.elim z)
              have end_ : ∀ {σ6 : L2.St} {H6 : Hp} {Q : Shared → Prop}, Inv (X.suite a ((a, oe4) :: (X.pn ++ pins))) [] σ6 H6 s6 → (∀ s7, Inv X pins (σ6.set i none) H6 s7 → Q s7) →
                  wpAny (model X.prog X.w) X.A (do bindName X.env n .none; unbindBehindTheSuite X.env n pos') (fun _ s7 => Q s7) X.xe s6 := fun {σ6 H6 Q} S6 hq => gone_ok (S6.unsuite ok) hN hi hln hq
              cases f with
              | next => obtain ⟨σ6, H6, S6, q6⟩ := hsp; exact end_ S6 fun s7 J7 => ⟨_, _, J7, q6⟩
              | brk => obtain ⟨σ6, H6, S6, q6⟩ := hsp; exact end_ S6 fun s7 J7 => ⟨_, _, J7, q6⟩
              | cont => obtain ⟨σ6, H6, S6, q6⟩ := hsp; exact end_ S6 fun s7 J7 => ⟨_, _, J7, q6⟩
              | ret u => obtain ⟨v6, σ6, H6, S6, r6, q6⟩ := hsp; exact end_ S6 fun s7 J7 => ⟨_, _, _, J7, r6, q6⟩
    exact go hh w
  · cases f with
    | next =>
      obtain ⟨σ', H', J', q⟩ := hsp
      exact wpAny_execs_nil ⟨σ', H', J'.ofTry ok, q⟩
    | brk =>
      obtain ⟨σ', H', J', q⟩ := hsp
      exact ⟨σ', H', J'.ofTry ok, q⟩
    | cont =>
      obtain ⟨σ', H', J', q⟩ := hsp
      exact ⟨σ', H', J'.ofTry ok, q⟩
    | ret u =>
      obtain ⟨v, σ', H', J', r, q⟩ := hsp
      exact ⟨v, σ', H', J'.ofTry ok, r, q⟩
end
end Gc

end

section
set_option Elab.async false
set_option linter.all false
set_option maxRecDepth 100000
set_option maxHeartbeats 1000000
/-! the interpreter is sound: try -/
namespace Gc
open PySem PySem.Spec L2

/-- another handled exception -/
def CL.rz (cl : CL) (Z : Option (Addr × List Str × List D)) (ea : Option Addr) : CL := ⟨cl.f, Z, ea, cl.fa⟩
def RC.rz (R : RC) (Z : Option (Addr × List Str × List D)) (ea : Option Addr) : RC := { R with cl := R.cl.rz Z ea }
mutual
theorem Rep.rz {R : RC} {Z : Option (Addr × List Str × List D)} {ea : Option Addr} : ∀ (d : D) (v : V), Rep R v d → Rep (R.rz Z ea) v d
  | .non, _, h => h
  | .bl _, _, h => h
  | .int _, _, h => h
  | .str _, _, h => h
  | .lst xs, v, h => by
    unfold Rep at h ⊢
    obtain ⟨a, vs, e, hh, n, r⟩ := h
    exact ⟨a, vs, e, hh, n, RepL.rz xs vs r⟩
  | .tup xs, v, h => by
    unfold Rep at h ⊢
    obtain ⟨a, vs, e, hh, n, r⟩ := h
    exact ⟨a, vs, e, hh, n, RepL.rz xs vs r⟩
  | .dK ks xs, v, h => by
    unfold Rep at h ⊢
    obtain ⟨a, vs, e, hh, n, q, r⟩ := h
    exact ⟨a, vs, e, hh, n, q, RepL.rz xs _ r⟩
  | .dT ks xs, v, h => by
    unfold Rep at h ⊢
    obtain ⟨a, vs, e, hh, n, q, r⟩ := h
    exact ⟨a, vs, e, hh, n, q, RepL.rz xs _ r⟩
  | .obj c ns xs, v, h => by
    unfold Rep at h ⊢
    obtain ⟨a, dx, fs, e, hh, n, q, r⟩ := h
    exact ⟨a, dx, fs, e, hh, n, q, RepL.rz xs _ r⟩
  | .ref n, v, h => by
    unfold Rep at h ⊢
    exact h
  | .scr ns, v, h => by
    unfold Rep at h ⊢
    exact h
  | .fn f, v, h => by
    unfold Rep at h ⊢
    exact h
  | .exc, v, h => by unfold Rep at h; exact h.elim
theorem RepL.rz {R : RC} {Z : Option (Addr × List Str × List D)} {ea : Option Addr} : ∀ (ds : List D) (vs : List V), RepL R vs ds → RepL (R.rz Z ea) vs ds
  | [], _, h => h
  | d :: ds, vs, h => by
    unfold RepL at h ⊢
    obtain ⟨v, r, e, h1, h2⟩ := h
    exact ⟨v, r, e, Rep.rz d v h1, RepL.rz ds r h2⟩
end
theorem RepH.rz {R : RC} {Z : Option (Addr × List Str × List D)} {ea : Option Addr} {o : HO} : ∀ {d : D}, RepH R o d → RepH (R.rz Z ea) o d
  | .lst xs, ⟨vs, e, r⟩ => ⟨vs, e, RepL.rz _ _ r⟩
  | .dK ks xs, ⟨vs, e, q, r⟩ => ⟨vs, e, q, RepL.rz _ _ r⟩
  | .dT ks xs, ⟨vs, e, q, r⟩ => ⟨vs, e, q, RepL.rz _ _ r⟩
  | .obj c ns xs, ⟨dx, fs, e, q, r⟩ => ⟨dx, fs, e, q, RepL.rz _ _ r⟩
theorem Cells.rz {R : RC} (c : Cells R) {Z : Option (Addr × List Str × List D)} {ea : Option Addr} (h : ZOk (R.rz Z ea)) : Cells (R.rz Z ea) :=
  ⟨fun n d e => let ⟨o, h1, h2⟩ := c.cell n d e; ⟨o, h1, RepH.rz h2⟩, c.inj, c.out, c.dom, h⟩

theorem unX_len (τ : List (Option D)) : (unX τ).length = τ.length := List.length_map ..
theorem unX_some {τ : List (Option D)} {i : Nat} {d : D} (h : (unX τ)[i]? = some (some d)) : τ[i]? = some (some d) ∧ d ≠ .exc := by
  unfold unX at h
  rw [List.getElem?_map] at h
  cases q : τ[i]? with
  | none => rw [q] at h; cases h
  | some o =>
    rw [q] at h
    cases o with
    | none => cases h
    | some e =>
      cases e <;> first | (cases h; done) | (cases h; exact ⟨rfl, by intro z; cases z⟩)
theorem Slots.unX {R : RC} {σ : St} {τ : List (Option D)} (h : Slots R σ τ) {Z : Option (Addr × List Str × List D)} {ea : Option Addr} : Slots (R.rz Z ea) σ (unX τ) :=
  ⟨by rw [unX_len]; exact h.1, fun i d e => by
    obtain ⟨h1, h2⟩ := unX_some e
    obtain ⟨v, h3, h4⟩ := h.2 i d h1
    exact ⟨v, h3, .inl (Rep.rz d v (h4.resolve_right fun z => h2 z.1))⟩⟩
theorem Slots.setNone {R : RC} {σ : St} {τ : List (Option D)} {i : Nat} {x : Option V} (h : Slots R σ τ) : Slots R (σ.set i x) (τ.set i none) := by
  refine ⟨by rw [List.length_set, List.length_set]; exact h.1, fun j e q => ?_⟩
  by_cases hj : i = j
  · subst hj
    by_cases hi : i < τ.length
    · rw [List.getElem?_set_self hi] at q
      cases q
    · rw [List.getElem?_eq_none (by simpa using hi)] at q
      cases q
  · rw [List.getElem?_set_ne hj] at q ⊢
    exact h.2 j e q
theorem Slots.setExc {R : RC} {σ : St} {τ : List (Option D)} {i : Nat} {a : Addr} (h : Slots R σ τ) (ha : R.cl.ea = some a) : Slots R (σ.set i (some (.ref a))) (τ.set i (some .exc)) := by
  refine ⟨by rw [List.length_set, List.length_set]; exact h.1, fun j e q => ?_⟩
  by_cases hj : i = j
  · subst hj
    by_cases hi : i < τ.length
    · rw [List.getElem?_set_self hi] at q
      cases q
      exact ⟨.ref a, by rw [List.getElem?_set_self (by rw [h.1]; exact hi)], .inr ⟨rfl, a, ha, rfl⟩⟩
    · rw [List.getElem?_eq_none (by simpa using hi)] at q
      cases q
  · rw [List.getElem?_set_ne hj] at q ⊢
    exact h.2 j e q

/-- the classes as a suite sees them -/
abbrev clX (cl : CL) (a : Addr) (d : Option Addr) (ns : List Str) (xs : List D) : CL := cl.rz (d.map fun d => (d, ns, xs)) (some a)
section
variable {X : Cx} {cl : CL} {W : WX} {P : Pg} {body : List Stmt} {h₀ : ExceptHandler} {hds : List ExceptHandler} {l : HdL} {pos : Pos} {mb : M Fl} {n x f : Str} {p : Pos} {i : Nat}
/-- e.f in a suite -/
theorem se_exf {a C : Addr} {oe : Obj} {cls : Value} {d : Option Addr} {pn : List (Addr × Obj)} {ns : List Str} {xs : List D} (T : XfC X.K C) (hno : PySem.W.findIn X.K (.ref C) f = some none) (hcls : cls = .ref C) (hd0 : d = none → ns = []) (hz : Zc cls d oe) (hf : ∃ vs, oe.data = .fields vs)
    (hN : X.N[i]? = some n) (hv : Vis X.env.scope n) (hd : (n == ("__debug__" : Str)) = false) (hcd : (n == ("__classdict__" : Str)) = false) :
    SE (X.suite a ((a, oe) :: pn)) (clX cl a d ns xs) W (.Attribute (.Name n p) f pos) (exfM i f (ns, xs)) := by
  refine PE.weak (pe_xf T hno hz hf (pe_var (X := X.suite a ((a, oe) :: pn)) hN hv hd hcd) rfl) fun σ H Q ⟨R, τ, hH, A, h⟩ => ?_
  subst hH
  unfold rdAt exfM at h
  dsimp only at h
  cases q : τ[i]? with
  | none => rw [q] at h; exact h.elim
  | some o =>
    cases o with
    | none => rw [q] at h; exact h.elim
    | some e =>
      cases e with
      | exc =>
        rw [q] at h
        dsimp only at h
        obtain ⟨v, e1, r⟩ := A.slots.2 i _ q
        rcases r with r | ⟨_, a', ha', ev⟩
        · unfold Rep at r; exact r.elim
        · have ea : a' = a := by
            rw [A.cl] at ha'
            exact (Option.some.inj ha').symm
          subst ea
          subst ev
          refine ⟨_, e1, rfl, hcls, ?_⟩
          cases q2 : lookK f ns xs with
          | none => rw [q2] at h; exact h.elim
          | some dv =>
            rw [q2] at h
            dsimp only at h
            cases d with
            | none =>
              rw [hd0 rfl] at q2
              cases q2
            | some dd =>
              obtain ⟨fs, z1, z2, z3, z4⟩ := A.cells.zok dd ns xs (by rw [A.cl]; rfl)
              obtain ⟨v, z5, z6⟩ := lookK_lookup z3 z4 q2
              exact ⟨dd, fs, v, rfl, z1, z5, h v R (Ext.refl R) rfl A z6⟩
      | _ => rw [q] at h; exact h.elim

/-- what the clauses do, as the interpreter says -/
def HdR (K : PySem.W.Frag) (cl : CL) (W : WX) (l : HdL) (h : Nat → List Str → List D → M Fl) : Prop :=
  ∀ E R σ τ c ns xs cls dd, At K cl R σ τ → RepX R c ns xs cls dd → rdSAt K cl W R τ (h c ns xs) E → wGen K W E l cls dd σ R.H
theorem hdr_nil {K : PySem.W.Frag} : HdR K cl W [] (fun c ns xs s => .exn c ns xs s) := fun E R σ τ c ns xs cls dd A r h => h R σ cls dd (Ext.refl R) rfl A r
/-- a suite's reading -/
def suTS (K : PySem.W.Frag) (cl : CL) (P : Pg) (hn : Nat) (ms : List Str → List D → M Fl) (a : Addr) (cls : Value) (d : Option Addr) : L2.TS :=
  fun E σ H => ∃ c ns xs, cls = .ref (cl c) ∧ isUp P c hn = some true ∧ (d = none → ns = []) ∧ rdS K (clX cl a d ns xs) W0 (ms ns xs) E σ H
theorem pss_su {st : List Stmt} {K : PySem.W.Frag} {hn : Nat} {ms : List Str → List D → M Fl} {a : Addr} {cls : Value} {d : Option Addr}
    (h : ∀ c ns xs, cls = .ref (cl c) → isUp P c hn = some true → (d = none → ns = []) → PSs X st (rdS K (clX cl a d ns xs) W0 (ms ns xs))) : PSs X st (suTS K cl P hn ms a cls d) :=
  ⟨fun pins s σ H E I ⟨c, ns, xs, h1, h2, h3, h4⟩ => (h c ns xs h1 h2 h3).run pins s σ H E I h4⟩
theorem hdr_cons {K : PySem.W.Frag} {hn : Nat} {io : Option Nat} {ms : List Str → List D → M Fl} {h : Nat → List Str → List D → M Fl} (exm : ∀ c b, isUp P c hn = some b → PySem.W.exmOne K (.ref (cl c)) (.ref (cl hn)) = some b) (r : HdR K cl W l h) :
    HdR K cl W ((.ref (cl hn), io, suTS K cl P hn ms) :: l) (hdK P hn io ms h) := by
  intro E R σ τ c ns xs cls dd A rx hh
  have ecls : cls = .ref (cl c) := by rw [rx.1, A.cl]
  unfold hdK at hh
  cases q : isUp P c hn with
  | none =>
    rw [q] at hh
    exact hh.elim
  | some b =>
    refine ⟨b, by rw [ecls]; exact exm c b q, fun eb a ha => ?_, fun eb => ?_⟩
    · subst eb
      rw [q] at hh
      dsimp only at hh
      have hdd : dd = none → ns = [] := fun z => by
        rcases rx.2 with ⟨h1, _, _⟩ | ⟨d, fs, e, _⟩
        · exact h1
        · rw [z] at e; cases e
      have zok : ZOk (R.rz (dd.map fun d => (d, ns, xs)) (some a)) := fun d ns' xs' e => by
        cases dd with
        | none => cases e
        | some d0 =>
          cases e
          rcases rx.2 with ⟨_, _, z⟩ | ⟨d, fs, e, h1, h2, h3, h4⟩
          · cases z
          · cases e
            exact ⟨fs, h1, h2, h3, RepL.rz _ _ h4⟩
      have Aₛ : At K (clX cl a dd ns xs) (R.rz (dd.map fun d => (d, ns, xs)) (some a)) (inN io a σ) (inX io τ) := by
        refine ⟨A.K, by show R.cl.rz _ _ = _; rw [A.cl], A.cells.rz zok, ?_⟩
        cases io with
        | none => exact A.slots.unX
        | some i => exact (A.slots.unX).setExc rfl
      refine ⟨c, ns, xs, ecls, q, hdd, R.rz (dd.map fun d => (d, ns, xs)) (some a), inX io τ, rfl, Aₛ, ?_⟩
      unfold rdSAt suiteM at hh
      dsimp only at hh
      unfold rdSAt
      show (match ms ns xs ⟨inX io τ, R.S⟩ with | .ok fl s => _ | .exn c ns xs s => _ | .bad => _)
      cases q2 : ms ns xs ⟨inX io τ, R.S⟩ with
      | bad => rw [q2] at hh; exact hh.elim
      | exn c' ns' xs' s' => rw [q2] at hh; exact hh.elim
      | ok fl s' =>
        rw [q2] at hh
        dsimp only at hh ⊢
        intro R3 σ3 x3 e3 A3
        have x4 : Ext R (R3.rz cl.Z cl.ea) := by
          refine ⟨x3.K, ?_, x3.X, x3.hp, x3.len, x3.rho⟩
          show R3.cl.rz cl.Z cl.ea = R.cl
          rw [A3.cl, A.cl]
          rfl
        have hcl4 : (R3.rz cl.Z cl.ea).cl = cl := x4.cl.trans A.cl
        have C4 : Cells (R3.rz cl.Z cl.ea) := A3.cells.rz (ZOk.go x4.go A.cells.zok)
        have S4 : ∀ σ', (match io with | none => σ' = σ3 | some i => σ' = σ3.set i none) → Slots (R3.rz cl.Z cl.ea) σ' (outX io s'.τ) := fun σ' e => by
          cases io with
          | none => subst e; exact A3.slots.unX
          | some i => subst e; exact (A3.slots.unX).setNone
        cases io with
        | none =>
          have := hh (R3.rz cl.Z cl.ea) σ3 x4 e3 ⟨x4.K.trans A.K, hcl4, C4, S4 _ rfl⟩
          cases fl with
          | nx => exact this
          | bk => exact this
          | ct => exact this
          | rt d => exact fun v rv => this v (Rep.rz d v rv)
        | some i =>
          have := hh (R3.rz cl.Z cl.ea) (σ3.set i none) x4 e3 ⟨x4.K.trans A.K, hcl4, C4, S4 _ rfl⟩
          cases fl with
          | nx => exact this
          | bk => exact this
          | ct => exact this
          | rt d => exact fun v rv => this v (Rep.rz d v rv)
    · subst eb
      rw [q] at hh
      exact r E R σ τ c ns xs cls dd A rx hh
theorem ss_try {h : Nat → List Str → List D → M Fl} (hs : X.stack = X.env :: X.outer) (hf : X.env.frame = some X.env.locals) (hN : X.N.Nodup) (tk : Takes X W)
    (hb : ∀ (W' : WX) (pn : List (Addr × Obj)) (xe : Value → Shared → Prop), Takes (X.tr pn xe) W' → PassesOwn (model X.prog X.w) X.A X.env xe → SSs (X.tr pn xe) cl W' body mb)
    (hh : HdG X (h₀ :: hds) l) (hr : HdR X.K cl W l h) : SS X cl W (.Try body (h₀ :: hds) [] [] pos) (triM mb h) := by
  refine PS.weak (ps_try_gen (tb := fun W' => rdS X.K cl W' mb) hs hf hN tk hb hh) fun E σ H ⟨R, τ, hH, A, hq⟩ => ⟨R, τ, hH, A, ?_⟩
  unfold rdSAt triM at hq
  unfold rdSAt
  cases q : mb ⟨τ, R.S⟩ with
  | bad => rw [q] at hq; exact hq
  | ok fl s => rw [q] at hq; exact hq
  | exn c ns xs s =>
    rw [q] at hq
    dsimp only at hq ⊢
    intro R1 σ1 cls dd x1 e1 A1 r1
    refine hr E R1 σ1 s.τ c ns xs cls dd A1 r1 ?_
    unfold rdSAt
    rw [show (⟨s.τ, R1.S⟩ : MS) = s from by rw [e1]]
    split at hq
    · exact fun R' σ' x' e' A' => hq R' σ' (x1.trans x') e' A'
    · exact fun R' σ' cls dd x' e' A' r' => hq R' σ' cls dd (x1.trans x') e' A' r'
    · exact hq
end
end Gc

end

section
set_option Elab.async false
set_option linter.all false
set_option maxRecDepth 100000
set_option maxHeartbeats 1000000
/-! from the row's syntax to the small one -/
namespace Gc
open PySem PySem.Spec L2

inductive Gk where | fn (f : Nat) | cls (c : Nat) | blt | oth
/-- what is known where a piece of syntax stands -/
structure Dx where
  N : List Str
  sc : Scope
  fn : Str → Bool
  calm : Bool
  top : Bool
  xv : Option Str
  gl : Str → Gk
  fz : Pos → Bool
  md : Pos → Nat
  wp : Pos → List Nat
def ixOf (x : Str) : List Str → Option Nat
  | [] => none
  | y :: r => if y = x then some 0 else (ixOf x r).map (· + 1)
theorem ixOf_get {x : Str} : ∀ {N : List Str} {i : Nat}, ixOf x N = some i → N[i]? = some x
  | [], _, h => by cases h
  | y :: r, i, h => by
    unfold ixOf at h
    split at h
    · rename_i e
      cases h
      rw [e]
      rfl
    · cases q : ixOf x r with
      | none => rw [q] at h; cases h
      | some j =>
        rw [q] at h
        cases h
        show (y :: r)[j + 1]? = some x
        rw [List.getElem?_cons_succ]
        exact ixOf_get q
def vis (sc : Scope) (x : Str) : Bool := match sc.names.lookup x with
  | some .local => true
  | some .cell => true
  | some .free => true
  | _ => false
theorem vis_ok {sc : Scope} {x : Str} (h : vis sc x = true) : Vis sc x := by
  unfold vis at h
  split at h
  · rename_i q; exact .inl q
  · rename_i q; exact .inr (.inl q)
  · rename_i q; exact .inr (.inr q)
  · cases h
def locB (sc : Scope) (x : Str) : Bool := match sc.names.lookup x with
  | some .local => true
  | some .cell => true
  | _ => false
theorem locB_ok {sc : Scope} {x : Str} (h : locB sc x = true) : Loc sc x := by
  unfold locB at h
  split at h
  · rename_i q; exact .inl q
  · rename_i q; exact .inr q
  · cases h
def okNm (x : Str) : Bool := !(x == ("__debug__" : Str)) && !(x == ("__classdict__" : Str))
def dName (Δ : Dx) (x : Str) : Option Nat := if vis Δ.sc x && okNm x then ixOf x Δ.N else none
def stB (Δ : Dx) (x : Str) : Bool := locB Δ.sc x && (Δ.fn x || decide (Δ.sc.names.lookup x = some .local))
def dTgN (Δ : Dx) (x : Str) : Option Nat := if stB Δ x then ixOf x Δ.N else none
def dTgs (Δ : Dx) : List Expr → Option (List Nat)
  | [] => some []
  | .Name x _ :: r => (dTgN Δ x).bind fun i => (dTgs Δ r).map fun is => i :: is
  | _ => none
def dTg (Δ : Dx) : Expr → Option TG
  | .Name x _ => (dTgN Δ x).map .one
  | .Tuple es _ _ => if Δ.calm then (dTgs Δ es).map .tup else none
  | _ => none
def isGl (Δ : Dx) (x : Str) : Bool := decide (Δ.sc.names.lookup x = some .globalImplicit) && !(x == ("__debug__" : Str))
def isBlt (Δ : Dx) (x : Str) : Bool := isGl Δ x && (match Δ.gl x with | .blt => true | _ => false)
def notStarT : TX → Bool
  | .star _ => false
  | _ => true
def dE1 (rec : Expr → Option TX) (e : Expr) : Option TX := (rec e).bind fun t => if notStarT t then some t else none
def dEs (rec : Expr → Option TX) : List Expr → Option (List TX)
  | [] => some []
  | .Starred a _ :: r => (rec a).bind fun t => (dEs rec r).map fun ts => .star t :: ts
  | e :: r => (dE1 rec e).bind fun t => (dEs rec r).map fun ts => t :: ts
def dBool (rec : Expr → Option TX) (op : BoolOp) : List Expr → Option TX
  | [] => none
  | [e] => rec e
  | e :: r => (rec e).bind fun t => (dBool rec op r).map fun u => match op with | .And => .and t u | .Or => .or t u
def isTupE : Expr → Bool
  | .Tuple .. => true
  | _ => false
/-- what is walked -/
def dIt (Δ : Dx) (rec : Expr → Option TX) (tt : Bool) (iter : Expr) : Option (Wk × List TX) :=
  match iter with
  | .Call (.Name x _) [e] [] _ =>
    if x = "range" && isBlt Δ x && notStar e then (dE1 rec e).map fun t => (.rng1, [t])
    else if x = "enumerate" && isBlt Δ x && notStar e && tt then (dE1 rec e).map fun t => (.enum, [t])
    else (dE1 rec iter).map fun t => (.seq, [t])
  | .Call (.Name x _) [a, b] [] _ =>
    if x = "range" && isBlt Δ x && notStar a && notStar b then (dE1 rec a).bind fun t => (dE1 rec b).map fun u => (.rng2, [t, u])
    else if x = "zip" && isBlt Δ x && notStar a && notStar b && tt then (dE1 rec a).bind fun t => (dE1 rec b).map fun u => (.zip, [t, u])
    else (dE1 rec iter).map fun t => (.seq, [t])
  | _ => (dE1 rec iter).map fun t => (.seq, [t])
def tyOf (x : Str) : Option Ty :=
  if x = "int" then some .int else if x = "bool" then some .bool else if x = "str" then some .str else if x = "list" then some .list else if x = "tuple" then some .tuple else if x = "dict" then some .dict else none
def dTy (Δ : Dx) : Expr → Option Ty
  | .Name x _ => if isGl Δ x then (match Δ.gl x with
    | .cls c => some (.cls c)
    | .blt => tyOf x
    | _ => none) else none
  | _ => none
def dTys (Δ : Dx) : List Expr → Option (List Ty)
  | [] => some []
  | e :: r => (dTy Δ e).bind fun t => (dTys Δ r).map fun ts => t :: ts
def bltOf (x : Str) : Option Bl :=
  if x = "len" then some .len else if x = "abs" then some .abs else if x = "int" then some .int else if x = "str" then some .str else if x = "all" then some .all else if x = "any" then some .any
  else if x = "sum" then some .sum else if x = "list" then some .list else if x = "tuple" then some .tuple else if x = "max" then some .max else if x = "min" then some .min else none
def needCalm : Bl → Bool
  | .all | .any | .sum | .max | .min => true
  | _ => false
def dIsi (Δ : Dx) (rec : Expr → Option TX) (es : List Expr) : Option TX := match es with
  | [a, .Tuple ts _ _] => if notStar a then (rec a).bind fun t => (dTys Δ ts).bind fun ts => if ts.length ≤ 1000 then some (.isi t ts) else none else none
  | [a, b] => if notStar a && notStar b then (rec a).bind fun t => (dTy Δ b).map fun u => .isi t [u] else none
  | _ => none
def dLr (Δ : Dx) (rec : Expr → Option TX) (es : List Expr) : Option TX := match es with
  | [.Call (.Name y _) [e] [] _] => if y = "range" && isBlt Δ y && Δ.calm && notStar e then (dE1 rec e).map fun t => .blt .listRange [t] else none
  | _ => none
def dBlt (Δ : Dx) (rec : Expr → Option TX) (x : Str) (es : List Expr) : Option TX :=
  if x = "isinstance" then dIsi Δ rec es
  else (if x = "list" then dLr Δ rec es else none).or ((bltOf x).bind fun b => if (!needCalm b || Δ.calm) && noStars es && !es.isEmpty then (dEs rec es).map fun ts => .blt b ts else none)
def dLen (Δ : Dx) (rec : Expr → Option TX) (es : List Expr) : Option TX := match es with
  | [a] => if Δ.calm && notStar a then (rec a).map fun t => .len t else none
  | _ => none
def dCallN (P : Pg) (Δ : Dx) (rec : Expr → Option TX) (x : Str) (p : Pos) (es : List Expr) : Option TX :=
  if isGl Δ x then (match Δ.gl x with
    | .fn f => if Δ.calm && noStars es then (dEs rec es).map fun ts => .call f ts else none
    | .cls c => if plainCl P c && Δ.calm && noStars es then (dEs rec es).map fun ts => .make (Δ.md p) c ts else none
    | .blt => (if x = "len" then dLen Δ rec es else none).or (dBlt Δ rec x es)
    | .oth => none)
  else if Δ.calm && noStars es && !es.isEmpty then (dName Δ x).bind fun i => (dEs rec es).map fun ts => .callV i ts
  else none
/-- keywords: their names, their values -/
def dKws (rec : Expr → Option TX) : List Keyword → Option (List Str × List TX)
  | [] => some ([], [])
  | ⟨some n, e, _⟩ :: r => (dE1 rec e).bind fun t => (dKws rec r).map fun p => (n :: p.1, t :: p.2)
  | _ => none
def dCallKw (P : Pg) (Δ : Dx) (rec : Expr → Option TX) (x : Str) (es : List Expr) (kws : List Keyword) : Option TX :=
  if isGl Δ x && Δ.calm && noStars es then (match Δ.gl x with
    | .fn f => (P.fns[f]?).bind fun q => (dEs rec es).bind fun ts => (dKws rec kws).bind fun p => if q.ps.drop es.length = p.1 then some (.callK f es.length ts p.2) else none
    | _ => none)
  else none
def dKeys : List (Option Expr) → Option (List Key)
  | [] => some []
  | some (.Constant (.int i) _ _) :: r => (dKeys r).map fun ks => .inl i :: ks
  | some (.Constant (.str x) _ _) :: r => (dKeys r).map fun ks => .inr x :: ks
  | _ => none
def dVals (rec : Expr → Option TX) : List Expr → Option (List TX)
  | [] => some []
  | e :: r => (dE1 rec e).bind fun t => (dVals rec r).map fun ts => t :: ts
def dDic (dm : Nat) (rec : Expr → Option TX) (keys : List (Option Expr)) (vals : List Expr) : Option TX :=
  if decide (keys.length = vals.length) && decide (keys.length ≤ 15) && !keys.isEmpty then (dKeys keys).bind fun ks => (dVals rec vals).map fun ts => .dic dm ks ts else none
/-- a method of lists -/
def bmOf (m : Str) (n : Nat) : Option Bm :=
  if m = "append" && n = 1 then some .append else if m = "pop" && n = 0 then some .pop else if m = "pop" && n = 1 then some .popAt else if m = "clear" && n = 0 then some .clear else none
def isBmN (m : Str) : Bool := decide (m = "append") || decide (m = "pop") || decide (m = "clear") || decide (m = "index") || decide (m = "join") || decide (m = "split") || decide (m = "values")
def dMeth (Δ : Dx) (rec : Expr → Option TX) (o : Expr) (m : Str) (apos pos : Pos) (es : List Expr) : Option TX :=
  if base0 o && noStars es && decide (es.length < 30) && (apos.endLine == pos.line) then
    (if m = "split" && es.length = 1 then (rec o).bind fun t => (match es with | [e] => (rec e).map fun u => .ssp t u | _ => none)
    else if m = "join" && es.length = 1 then (rec o).bind fun t => (match es with | [e] => (rec e).map fun u => .sjn t u | _ => none)
    else if isBmN m then (bmOf m es.length).bind fun b => (rec o).bind fun t => (dEs rec es).map fun ts => .bm t b ts
    else if Δ.calm then (rec o).bind fun t => (dEs rec es).map fun ts => .meth t m ts else none)
  else none
def dMethKw (Δ : Dx) (rec : Expr → Option TX) (o : Expr) (m : Str) (apos pos : Pos) (es : List Expr) (kws : List Keyword) : Option TX :=
  if base0 o && noStars es && decide (es.length + kws.length + 1 < 30) && (apos.endLine == pos.line) && Δ.calm then
    (rec o).bind fun t => (dEs rec es).bind fun ts => (dKws rec kws).map fun p => .methK t m ts p.1 p.2
  else none
def dAttr (P : Pg) (Δ : Dx) (rec : Expr → Option TX) (o : Expr) (f : Str) : Option TX := match o with
  | .Name n _ => if Δ.xv = some n then (if P.xfs.contains f then (dName Δ n).map fun i => .exf i f else none) else if base0 o then (rec o).map fun t => .attr t f else none
  | _ => if base0 o then (rec o).map fun t => .attr t f else none
def dSub (rec : Expr → Option TX) (o i : Expr) : Option TX := match i with
  | .Slice none none none _ => (rec o).map fun t => .sl t false false []
  | .Slice (some a) none none _ => (rec o).bind fun t => (dE1 rec a).map fun u => .sl t true false [u]
  | .Slice none (some a) none _ => (rec o).bind fun t => (dE1 rec a).map fun u => .sl t false true [u]
  | .Slice none none (some (.UnaryOp .USub (.Constant (.int 1) _ _) _)) _ => (rec o).map fun t => .rev t
  | .Slice .. => none
  | i => (rec o).bind fun t => (rec i).map fun u => .sub t u
def dOwn (N : List Str) (names : List (Str × NameKind)) : List (Str × Nat) := names.filterMap fun y => if y.2 = .local ∨ y.2 = .cell then (ixOf y.1 N).map fun i => (y.1, i) else none
def blkB (sc scope : Scope) : Bool := decide (scope.kind = .function) && (scope.names.all fun y => decide (scope.names.lookup y.1 = some y.2)) &&
  (scope.names.all fun y => !decide (y.2 = .free) || decide (sc.names.lookup y.1 = some .cell) || decide (sc.names.lookup y.1 = some .free))
def Dx.block (Δ : Dx) (scope : Scope) : Dx := { Δ with sc := relS scope Δ.sc, fn := fun x => scope.names.lookup x == some .cell, top := false }
def dIfs (rec : Expr → Option TX) : List Expr → Option (List TX)
  | [] => some []
  | [e] => (rec e).map fun t => [t]
  | _ => none
def dComp (Δ : Dx) (rec : Dx → Expr → Option TX) (elt : Expr) (gs : List Comprehension) (scope : Scope) : Option TX :=
  if Δ.calm && blkB Δ.sc scope then (match gs with
    | [⟨tg, iter, ifs, 0⟩] => if notSet iter then (dIt Δ (rec Δ) (isTupE tg) iter).bind fun ki => (dTg (Δ.block scope) tg).bind fun tgD =>
        if tgD.slots.all fun i => ((dOwn Δ.N scope.names).map (·.2)).contains i then (dIfs (rec (Δ.block scope)) ifs).bind fun us => (rec (Δ.block scope) elt).map fun t => .lc ((dOwn Δ.N scope.names).map (·.2)) tgD ki.1 ki.2 us t else none else none
    | [⟨tg, iter, ifs, 0⟩, ⟨tg1, iter1, ifs1, 0⟩] => if notSet iter && notSet iter1 then (dIt Δ (rec Δ) (isTupE tg) iter).bind fun ki => (dTg (Δ.block scope) tg).bind fun tgD => (dIt (Δ.block scope) (rec (Δ.block scope)) (isTupE tg1) iter1).bind fun ki1 => (dTg (Δ.block scope) tg1).bind fun tgD1 =>
        if (tgD.slots.all fun i => ((dOwn Δ.N scope.names).map (·.2)).contains i) && (tgD1.slots.all fun i => ((dOwn Δ.N scope.names).map (·.2)).contains i) then
          (dIfs (rec (Δ.block scope)) ifs).bind fun us => (dIfs (rec (Δ.block scope)) ifs1).bind fun us1 => (rec (Δ.block scope) elt).map fun t => .lc2 ((dOwn Δ.N scope.names).map (·.2)) tgD1.slots tgD ki.1 ki.2 us tgD1 ki1.1 ki1.2 us1 t else none else none
    | _ => none)
  else none
def dStep (P : Pg) (rec : Dx → Expr → Option TX) (Δ : Dx) (e : Expr) : Option TX := match e with
  | .Name x p => if isGl Δ x then (match Δ.gl x with | .fn f => if Δ.calm then some (.fnv f) else none | _ => none) else (dName Δ x).map fun i => .var i (Δ.fz p)
  | .Constant .none _ _ => some (.con .non)
  | .Constant (.bool b) _ _ => some (.con (.bl b))
  | .Constant (.int i) _ _ => some (.con (.int i))
  | .Constant (.str x) _ _ => some (.con (.str x))
  | .BinOp a op b _ => (rec Δ a).bind fun t => (rec Δ b).map fun u => .bin op t u
  | .UnaryOp .USub a _ => (rec Δ a).map fun t => .neg t
  | .UnaryOp .Not a _ => (rec Δ a).map fun t => .not t
  | .Compare a [op] [b] _ => if notSet b then (rec Δ a).bind fun t => (rec Δ b).map fun u => if Δ.calm then .cmp op t u else .cmpP op t u else none
  | .Compare a [op, op'] [b, c] _ => if notSet c then (rec Δ a).bind fun t => (rec Δ b).bind fun u => (rec Δ c).map fun v => .chn op op' t u v else none
  | .BoolOp op es _ => dBool (rec Δ) op es
  | .IfExp c a b _ => (rec Δ c).bind fun t => (rec Δ a).bind fun u => (rec Δ b).map fun v => .ife t u v
  | .Tuple es _ _ => (dEs (rec Δ) es).map fun ts => .tup ts
  | .List es _ => (dEs (rec Δ) es).map fun ts => .lst ts
  | .ListComp elt gs scope _ => dComp Δ rec elt gs scope
  | .Call (.Name x _) es [] p => dCallN P Δ (rec Δ) x p es
  | .Call (.Attribute o m apos) es [] pos => dMeth Δ (rec Δ) o m apos pos es
  | .Call (.Name x _) es kws _ => dCallKw P Δ (rec Δ) x es kws
  | .Call (.Attribute o m apos) es kws pos => dMethKw Δ (rec Δ) o m apos pos es kws
  | .Dict keys vals p => dDic (Δ.md p) (rec Δ) keys vals
  | .Attribute o f _ => dAttr P Δ (rec Δ) o f
  | .Subscript o i _ => dSub (rec Δ) o i
  | _ => none
def dE (P : Pg) : Nat → Dx → Expr → Option TX
  | 0 => fun _ _ => none
  | n + 1 => dStep P (dE P n)

/-! ### statements -/
/-- a, b = .. by values exchanged -/
def namesOf : List Expr → Option (List (Str × Pos))
  | [] => some []
  | .Name x p :: r => (namesOf r).map fun l => (x, p) :: l
  | _ => none
def swB (Δ : Dx) (t : Str) (p : Pos) : Expr → Bool
  | .ListComp _ _ s q => decide (Δ.sc.names.lookup t = some .local) && (p.line == q.line) && !(s.names.any fun (n, k) => n == t && (k == .local || k == .cell))
  | _ => false
def lcOk : Expr → Bool
  | .SetComp .. | .DictComp .. => false
  | _ => true
def parOk (Δ : Dx) (vs : List Expr) (ls : List (Str × Pos)) : Bool := noStars vs && (ls.all fun y => decide (Δ.sc.names.lookup y.1 = some .local)) && (ls.all fun y => y.2.line == ((ls.head?.map (·.2.line)).getD 0)) && !(vs.all (foldedForSure 8)) && !(vs.all (constantsAlone 8))
def dAsgT (Δ : Dx) (rec : Expr → Option TX) (ts : List Expr) (e : Expr) : Option TS := match ts, e with
  | [.Name x px, .Name y py], .Tuple [a, b] _ _ => if Δ.calm && parOk Δ [a, b] [(x, px), (y, py)] && !decide (x = y) then
      (dTgN Δ x).bind fun i => (dTgN Δ y).bind fun j => (dE1 rec a).bind fun t => (dE1 rec b).map fun u => .par i j t u else none
  | [.Name x px, .Name y py, .Name z pz], .Tuple [a, b, c] _ _ => if Δ.calm && parOk Δ [a, b, c] [(x, px), (y, py), (z, pz)] && !decide (x = y) && !decide (x = z) && !decide (y = z) then
      (dTgN Δ x).bind fun i => (dTgN Δ y).bind fun j => (dTgN Δ z).bind fun k => (dE1 rec a).bind fun t => (dE1 rec b).bind fun u => (dE1 rec c).map fun v => .par3 i j k t u v else none
  | ts, .Tuple vs _ _ => if Δ.calm && decide (3 < ts.length) then (dTgs Δ ts).bind fun is => (rec e).map fun t => .unp is t else none
  | ts, e => if Δ.calm && notLc e then (dTgs Δ ts).bind fun is => (rec e).map fun t => .unp is t else none
def subOk : Expr → Bool
  | .Slice .. => false
  | _ => true
def dRse (P : Pg) (Δ : Dx) (rec : Expr → Option TX) (e : Expr) : Option TS := match e with
  | .Call (.Name x _) [a] [] _ => if Δ.calm && isGl Δ x && notStar a then (match Δ.gl x with
    | .cls c => (P.cl c).bind fun q => (match q.exc with
      | some [_] => (dE1 rec a).map fun t => .rse c [t]
      | _ => none)
    | _ => none) else none
  | _ => none
def Dx.su (Δ : Dx) (on : Option Str) : Dx := { Δ with calm := false, top := false, xv := on }
mutual
def dS (P : Pg) (nE : Nat) : Nat → Dx → Stmt → Option TS
  | 0 => fun _ _ => none
  | n + 1 => fun Δ s => match s with
    | .Pass _ => some .pass
    | .Break _ => some .brk
    | .Continue _ => some .cnt
    | .Expr (.Constant (.str _) _ _) _ => some .pass
    | .Expr e _ => if notLc e then (dE P nE Δ e).map fun t => .expr t else none
    | .Assign [.Name x p] e pos => if lcOk e && stB Δ x && (!swB Δ x p e || Δ.calm) then (dTgN Δ x).bind fun i => (dE P nE Δ e).map fun t => .asg i (Δ.md pos) t else none
    | .Assign [.Tuple ts _ _] e _ => dAsgT Δ (dE P nE Δ) ts e
    | .Assign [.Subscript o i _] e _ => if notLc e && subOk i then (dE P nE Δ o).bind fun t => (dE P nE Δ i).bind fun u => (dE P nE Δ e).map fun v => .put t u v else none
    | .Assign [.Attribute o f _] e _ => if notLc e then (dE P nE Δ o).bind fun t => (dE P nE Δ e).map fun v => .fld t f v else none
    | .If c a b _ => (dE P nE Δ c).bind fun t => (dB P nE n Δ a).bind fun u => (dB P nE n Δ b).map fun v => .ite t u v
    | .For tg iter body [] p => if Δ.calm && Δ.top && notSet iter then (dIt Δ (dE P nE Δ) (isTupE tg) iter).bind fun ki => (dTg Δ tg).bind fun tgD => (dB P nE n Δ body).map fun u => .forr (Δ.wp p) tgD ki.1 ki.2 u else none
    | .While c body [] p => if Δ.top then (dE P nE Δ c).bind fun t => (dB P nE n Δ body).map fun u => .whl (Δ.wp p) t u else none
    | .Return (some e) _ => (dE P nE Δ e).map fun t => .ret t
    | .Return none _ => some .retN
    | .Raise (some e) none _ => dRse P Δ (dE P nE Δ) e
    | .Try body (h₀ :: hs) [] [] _ => if Δ.calm && Δ.top then (dB P nE n Δ body).bind fun u => (dH P nE n Δ (h₀ :: hs)).map fun v => .tri u v else none
    | _ => none
def dB (P : Pg) (nE : Nat) : Nat → Dx → List Stmt → Option TB
  | 0 => fun _ _ => none
  | n + 1 => fun Δ ss => match ss with
    | [] => some .nil
    | s :: r => (dS P nE n Δ s).bind fun t => (dB P nE n Δ r).map fun u => .cons t u
def dH (P : Pg) (nE : Nat) : Nat → Dx → List ExceptHandler → Option TH
  | 0 => fun _ _ => none
  | n + 1 => fun Δ hs => match hs with
    | [] => some .nil
    | .ExceptHandler (some (.Name x _)) on (b₀ :: suite) _ :: r => if isGl Δ x then (match Δ.gl x with
      | .cls c => (P.cl c).bind fun q => if q.exc.isSome then (match on with
        | none => (dB P nE n (Δ.su none) (b₀ :: suite)).bind fun u => (dH P nE n Δ r).map fun v => .cons c none u v
        | some nm => if decide (Δ.sc.names.lookup nm = some .local) then (ixOf nm Δ.N).bind fun i => (dB P nE n (Δ.su (some nm)) (b₀ :: suite)).bind fun u => (dH P nE n Δ r).map fun v => .cons c (some i) u v else none) else none
      | _ => none) else none
    | _ => none
end
end Gc

end

section
set_option Elab.async false
set_option linter.all false
set_option maxRecDepth 100000
set_option maxHeartbeats 1000000
/-! the decoder is sound: expressions -/
namespace Gc
open PySem PySem.Spec L2

theorem opt_bind {α β : Type} {o : Option α} {f : α → Option β} {b : β} (h : o.bind f = some b) : ∃ a, o = some a ∧ f a = some b := by
  cases o with
  | none => cases h
  | some a => exact ⟨a, rfl, h⟩
theorem opt_map {α β : Type} {o : Option α} {f : α → β} {b : β} (h : o.map f = some b) : ∃ a, o = some a ∧ f a = b := by
  cases o with
  | none => cases h
  | some a => exact ⟨a, rfl, Option.some.inj h⟩
theorem ite_some {α : Type} {c : Bool} {a : Option α} {b : α} (h : (if c = true then a else none) = some b) : c = true ∧ a = some b := by
  cases c with
  | false => cases h
  | true => exact ⟨rfl, h⟩
theorem and2 {a b : Bool} (h : (a && b) = true) : a = true ∧ b = true := Bool.and_eq_true_iff.mp h

/-- what the program's parts promise -/
structure PF (prog : Program) (w : World) (K : PySem.W.Frag) (mg : Str → Option Value) (base : Heap) (cl : CL) (P : Pg) (hc : Hc) (k : Nat) (fad : Nat → Addr) : Prop where
  fns : ∀ f q, P.fns[f]? = some q → FnH prog w K mg base cl hc k f q.ps (fad f)
  fa : ∀ f, cl.fa f = fad f
  mts : ∀ m, MtH prog w K mg base cl P hc k m
  mks : ∀ c, plainCl P c = true → MkH prog w K mg base cl P hc k c
  xcs : ∀ c q f, P.cl c = some q → q.exc = some [f] → XcH prog w K mg base cl k c f
  exm : ∀ c h b q, P.cl h = some q → q.exc.isSome = true → isUp P c h = some b → PySem.W.exmOne K (.ref (cl c)) (.ref (cl h)) = some b
  xff : ∀ c q, P.cl c = some q → q.exc.isSome = true → XfC K (cl c) ∧ ∀ f ∈ P.xfs, PySem.W.findIn K (.ref (cl c)) f = some none
/-- a global name -/
def GlOk (P : Pg) (fad : Nat → Addr) (mg : Str → Option Value) (cl : CL) (x : Str) : Gk → Prop
  | .fn f => mg x = some (.ref (fad f)) ∧ ∃ q, P.fns[f]? = some q
  | .cls c => mg x = some (.ref (cl c))
  | .blt => mg x = none
  | .oth => True
structure Good (P : Pg) (hc : Hc) (k : Nat) (fad : Nat → Addr) (Δ : Dx) (X : Cx) (cl : CL) (W : WX) (xc : List Str × List D) : Prop where
  N : X.N = Δ.N
  nd : X.N.Nodup
  sc : X.env.scope = Δ.sc
  kd : Δ.sc.kind = .function
  fn : X.fn = Δ.fn
  calm : X.calm = Δ.calm
  gl : ∀ x, GlOk P fad X.mg cl x (Δ.gl x)
  kit : Kit X.K cl P
  pl : ∀ c q, P.cl c = some q → q.exc ≠ none → q.fields = []
  un : X.A.units + 100 < cLine
  tk : Takes X W
  top : Δ.top = true → X.stack = X.env :: X.outer ∧ X.env.frame = some X.env.locals ∧ PassesOwn (model X.prog X.w) X.A X.env X.xe
  pf : Δ.calm = true → Δ.xv = none ∧ Room (k + 1) X.A ∧ PF X.prog X.w X.K X.mg X.base cl P hc k fad
  xv : ∀ n f i p pos, Δ.xv = some n → X.N[i]? = some n → Vis X.env.scope n → okNm n = true → f ∈ P.xfs → SE X cl W (.Attribute (.Name n p) f pos) (exfM i f xc)
structure S2 (P : Pg) (hc : Hc) (X : Cx) (cl : CL) (W : WX) (xc : List Str × List D) (e : Expr) (t : TX) : Prop where
  v : ∀ md, SE X cl W e (ev P hc xc md t)
  t : ST X cl W e (evT P hc xc t)
def RecOk (P : Pg) (hc : Hc) (k : Nat) (fad : Nat → Addr) (rec : Dx → Expr → Option TX) : Prop := ∀ Δ e t, rec Δ e = some t → ∀ X cl W xc, Good P hc k fad Δ X cl W xc → S2 P hc X cl W xc e t
def RecAt (P : Pg) (hc : Hc) (X : Cx) (cl : CL) (W : WX) (xc : List Str × List D) (rec : Expr → Option TX) : Prop := ∀ e t, rec e = some t → S2 P hc X cl W xc e t

section
variable {P : Pg} {hc : Hc} {k : Nat} {fad : Nat → Addr} {Δ : Dx} {X : Cx} {cl : CL} {W : WX} {xc : List Str × List D} {rec : Expr → Option TX}
theorem okNm_ok {x : Str} (h : okNm x = true) : (x == ("__debug__" : Str)) = false ∧ (x == ("__classdict__" : Str)) = false := by
  unfold okNm at h
  obtain ⟨h1, h2⟩ := and2 h
  exact ⟨by simpa using h1, by simpa using h2⟩
theorem dName_ok (G : Good P hc k fad Δ X cl W xc) {x : Str} {i : Nat} (h : dName Δ x = some i) : X.N[i]? = some x ∧ Vis X.env.scope x ∧ okNm x = true := by
  unfold dName at h
  obtain ⟨h1, h2⟩ := ite_some h
  obtain ⟨h3, h4⟩ := and2 h1
  exact ⟨by rw [G.N]; exact ixOf_get h2, by rw [G.sc]; exact vis_ok h3, h4⟩
theorem dTgN_ok (G : Good P hc k fad Δ X cl W xc) {x : Str} {i : Nat} (h : dTgN Δ x = some i) : X.N[i]? = some x ∧ Loc X.env.scope x ∧ (X.fn x = true ∨ X.env.scope.names.lookup x = some .local) := by
  unfold dTgN at h
  obtain ⟨h1, h2⟩ := ite_some h
  unfold stB at h1
  obtain ⟨h3, h4⟩ := and2 h1
  refine ⟨by rw [G.N]; exact ixOf_get h2, by rw [G.sc]; exact locB_ok h3, ?_⟩
  rcases Bool.or_eq_true_iff.mp h4 with z | z
  · exact .inl (by rw [G.fn]; exact z)
  · exact .inr (by rw [G.sc]; exact of_decide_eq_true z)
theorem dTgs_ok (G : Good P hc k fad Δ X cl W xc) : ∀ {es : List Expr} {is : List Nat}, dTgs Δ es = some is → NmE X es is
  | [], is, h => by cases h; exact .nil
  | .Name x p :: r, is, h => by
    unfold dTgs at h
    obtain ⟨i, h1, h2⟩ := opt_bind h
    obtain ⟨js, h3, h4⟩ := opt_map h2
    subst h4
    obtain ⟨a, b, c⟩ := dTgN_ok G h1
    exact .cons a b c (dTgs_ok G h3)
theorem dTg_ok (G : Good P hc k fad Δ X cl W xc) {e : Expr} {tg : Gc.TG} (h : dTg Δ e = some tg) : TgE X e tg := by
  unfold dTg at h
  split at h
  · obtain ⟨i, h1, h2⟩ := opt_map h
    subst h2
    obtain ⟨a, b, c⟩ := dTgN_ok G h1
    exact tg_name G.nd a b c
  · obtain ⟨h1, h2⟩ := ite_some h
    obtain ⟨is, h3, h4⟩ := opt_map h2
    subst h4
    exact tg_tup G.nd (by rw [G.calm]; exact h1) (dTgs_ok G h3)
  · cases h
theorem isGl_ok (G : Good P hc k fad Δ X cl W xc) {x : Str} (h : isGl Δ x = true) : Gl X x ∧ (x == ("__debug__" : Str)) = false := by
  unfold isGl at h
  obtain ⟨h1, h2⟩ := and2 h
  refine ⟨?_, by simpa using h2⟩
  show X.env.scope.names.lookup x = _
  rw [G.sc]
  exact of_decide_eq_true h1
theorem isBlt_ok (G : Good P hc k fad Δ X cl W xc) {x : Str} (h : isBlt Δ x = true) : Gl X x ∧ X.mg x = none := by
  unfold isBlt at h
  obtain ⟨h1, h2⟩ := and2 h
  have g := G.gl x
  split at h2
  · rename_i q
    rw [q] at g
    exact ⟨(isGl_ok G h1).1, g⟩
  · cases h2

/-! ### lists -/
theorem evL_cons {t : TX} {ts : List TX} {md : Nat} (h : notStarT t = true) : evL P hc xc (t :: ts) md = M.bind (ev P hc xc md t) fun d => M.bind (evL P hc xc ts md) fun ds => M.pure (d :: ds) := by
  cases t <;> first | rfl | cases h
theorem dE1_ok (R : RecAt P hc X cl W xc rec) {e : Expr} {t : TX} (h : dE1 rec e = some t) : notStarT t = true ∧ S2 P hc X cl W xc e t := by
  unfold dE1 at h
  obtain ⟨u, h1, h2⟩ := opt_bind h
  obtain ⟨h3, h4⟩ := ite_some h2
  cases h4
  exact ⟨h3, R e _ h1⟩
theorem dEs_ok (R : RecAt P hc X cl W xc rec) : ∀ {es : List Expr} {ts : List TX}, dEs rec es = some ts → ∀ md, SA X cl W es (evL P hc xc ts md)
  | [], ts, h, md => by cases h; exact sa_nil
  | e :: r, ts, h, md => by
    by_cases hs : notStar e = true
    · have h' : ((dE1 rec e).bind fun t => (dEs rec r).map fun ts => t :: ts) = some ts := by
        cases e <;> first | exact h | cases hs
      obtain ⟨t, h1, h2⟩ := opt_bind h'
      obtain ⟨us, h3, h4⟩ := opt_map h2
      subst h4
      obtain ⟨h5, h6⟩ := dE1_ok R h1
      rw [evL_cons h5]
      exact sa_cons hs (h6.v md) (dEs_ok R h3 md)
    · cases e with
      | Starred a p =>
        have h' : ((rec a).bind fun t => (dEs rec r).map fun ts => TX.star t :: ts) = some ts := h
        obtain ⟨t, h1, h2⟩ := opt_bind h'
        obtain ⟨us, h3, h4⟩ := opt_map h2
        subst h4
        exact sa_star ((R a t h1).v 0) (dEs_ok R h3 md)
      | _ => exact absurd rfl hs
theorem dEs_ne (R : RecAt P hc X cl W xc rec) {e : Expr} {r : List Expr} {ts : List TX} (h : dEs rec (e :: r) = some ts) : True := trivial
/-- and, or -/
theorem dBool_ok (R : RecAt P hc X cl W xc rec) {op : BoolOp} {pos : Pos} : ∀ {es : List Expr} {t : TX}, dBool rec op es = some t → (∀ md, SE X cl W (.BoolOp op es pos) (ev P hc xc md t)) ∧ SW X cl W (.BoolOp op es pos) (evT P hc xc t)
  | [], t, h => by cases h
  | [e], t, h => ⟨fun md => se_one ((R e t h).v md), sw_one (R e t h).t⟩
  | e :: b :: r, t, h => by
    unfold dBool at h
    obtain ⟨u, h1, h2⟩ := opt_bind h
    obtain ⟨v, h3, h4⟩ := opt_map h2
    obtain ⟨i1, i2⟩ := dBool_ok R h3
    have s := R e u h1
    cases op with
    | And =>
      subst h4
      exact ⟨fun md => se_and (s.v 0) (i1 md), sw_and s.t i2⟩
    | Or =>
      subst h4
      exact ⟨fun md => se_or (s.v 0) (i1 md), sw_or s.t i2⟩
/-! ### what is walked -/
theorem one_ev {t : TX} (h : notStarT t = true) : evL P hc xc [t] 0 = one1M (ev P hc xc 0 t) := evL_cons h
theorem two_ev {t u : TX} (h : notStarT t = true) (h' : notStarT u = true) : evL P hc xc [t, u] 0 = two1M (ev P hc xc 0 t) (ev P hc xc 0 u) := by rw [evL_cons h, evL_cons h']; rfl
theorem dIt_ok (G : Good P hc k fad Δ X cl W xc) (R : RecAt P hc X cl W xc rec) {tg iter : Expr} {ki : Wk × List TX} (h : dIt Δ rec (isTupE tg) iter = some ki) : SI X cl W tg iter (wkM ki.1 (evL P hc xc ki.2 0)) := by
  have seq : ∀ {ki : Wk × List TX}, ((dE1 rec iter).map fun t => (Wk.seq, [t])) = some ki → SI X cl W tg iter (wkM ki.1 (evL P hc xc ki.2 0)) := fun {ki} h => by
    obtain ⟨t, h1, h2⟩ := opt_map h
    subst h2
    obtain ⟨h3, h4⟩ := dE1_ok R h1
    show SI X cl W tg iter (wkM .seq (evL P hc xc [t] 0))
    rw [one_ev h3]
    exact si_seq (h4.v 0)
  unfold dIt at h
  split at h
  · rename_i x p1 e p2
    split at h
    · rename_i hx
      obtain ⟨hx, hs⟩ := and2 hx
      obtain ⟨hx, hb⟩ := and2 hx
      have ex := of_decide_eq_true hx
      subst ex
      obtain ⟨t, h1, h2⟩ := opt_map h
      subst h2
      obtain ⟨h3, h4⟩ := dE1_ok R h1
      obtain ⟨g1, g2⟩ := isBlt_ok G hb
      show SI X cl W tg _ (wkM .rng1 (evL P hc xc [t] 0))
      rw [one_ev h3]
      exact si_rng1 g1 g2 hs (h4.v 0)
    · split at h
      · rename_i hx
        obtain ⟨hx, ht⟩ := and2 hx
        obtain ⟨hx, hs⟩ := and2 hx
        obtain ⟨hx, hb⟩ := and2 hx
        have ex := of_decide_eq_true hx
        subst ex
        obtain ⟨t, h1, h2⟩ := opt_map h
        subst h2
        obtain ⟨h3, h4⟩ := dE1_ok R h1
        obtain ⟨g1, g2⟩ := isBlt_ok G hb
        show SI X cl W tg _ (wkM .enum (evL P hc xc [t] 0))
        rw [one_ev h3]
        cases tg with
        | Tuple es kk tp => exact si_enum g1 g2 hs (h4.v 0)
        | _ => cases ht
      · exact seq h
  · rename_i x p1 a b p2
    split at h
    · rename_i hx
      obtain ⟨hx, hs2⟩ := and2 hx
      obtain ⟨hx, hs⟩ := and2 hx
      obtain ⟨hx, hb⟩ := and2 hx
      have ex := of_decide_eq_true hx
      subst ex
      obtain ⟨t, h1, h2⟩ := opt_bind h
      obtain ⟨u, h1', h2⟩ := opt_map h2
      subst h2
      obtain ⟨h3, h4⟩ := dE1_ok R h1
      obtain ⟨h3', h4'⟩ := dE1_ok R h1'
      obtain ⟨g1, g2⟩ := isBlt_ok G hb
      show SI X cl W tg _ (wkM .rng2 (evL P hc xc [t, u] 0))
      rw [two_ev h3 h3']
      exact si_rng2 g1 g2 hs hs2 (h4.v 0) (h4'.v 0)
    · split at h
      · rename_i hx
        obtain ⟨hx, ht⟩ := and2 hx
        obtain ⟨hx, hs2⟩ := and2 hx
        obtain ⟨hx, hs⟩ := and2 hx
        obtain ⟨hx, hb⟩ := and2 hx
        have ex := of_decide_eq_true hx
        subst ex
        obtain ⟨t, h1, h2⟩ := opt_bind h
        obtain ⟨u, h1', h2⟩ := opt_map h2
        subst h2
        obtain ⟨h3, h4⟩ := dE1_ok R h1
        obtain ⟨h3', h4'⟩ := dE1_ok R h1'
        obtain ⟨g1, g2⟩ := isBlt_ok G hb
        show SI X cl W tg _ (wkM .zip (evL P hc xc [t, u] 0))
        rw [two_ev h3 h3']
        cases tg with
        | Tuple es kk tp => exact si_zip g1 g2 hs hs2 (h4.v 0) (h4'.v 0)
        | _ => cases ht
      · exact seq h
  · exact seq h
/-! ### calls -/
theorem s2_of {e : Expr} {t : TX} (hp : plainT e = true) (hv : ∀ md, SE X cl W e (ev P hc xc md t)) (ht : evT P hc xc t = truM (ev P hc xc 0 t)) : S2 P hc X cl W xc e t := ⟨hv, by rw [ht]; exact st_val hp (hv 0)⟩
theorem dTy_ok (G : Good P hc k fad Δ X cl W xc) {e : Expr} {t : Ty} (h : dTy Δ e = some t) : TyE X cl e t := by
  unfold dTy at h
  split at h
  · rename_i x p
    obtain ⟨h1, h2⟩ := ite_some h
    obtain ⟨g1, g2⟩ := isGl_ok G h1
    have g := G.gl x
    split at h2
    · rename_i c q
      cases h2
      rw [q] at g
      exact ⟨rfl, pe_glob g1 g rfl g2⟩
    · rename_i q
      rw [q] at g
      have bl : ∀ {T : String}, bootBuiltins x = some (.type T) → x ≠ "__name__" → PE X (.Name x p) (tC (.ty T)) := fun {T} hv hn => pe_bltn g1 g hv rfl hn g2
      unfold tyOf at h2
      split at h2
      · rename_i e; subst e; cases h2; exact ⟨rfl, bl (by decide +kernel) (by decide)⟩
      · split at h2
        · rename_i e; subst e; cases h2; exact ⟨rfl, bl (by decide +kernel) (by decide)⟩
        · split at h2
          · rename_i e; subst e; cases h2; exact ⟨rfl, bl (by decide +kernel) (by decide)⟩
          · split at h2
            · rename_i e; subst e; cases h2; exact ⟨rfl, bl (by decide +kernel) (by decide)⟩
            · split at h2
              · rename_i e; subst e; cases h2; exact ⟨rfl, bl (by decide +kernel) (by decide)⟩
              · split at h2
                · rename_i e; subst e; cases h2; exact ⟨rfl, bl (by decide +kernel) (by decide)⟩
                · cases h2
    · cases h2
  · cases h
theorem dTys_ok (G : Good P hc k fad Δ X cl W xc) : ∀ {es : List Expr} {ts : List Ty}, dTys Δ es = some ts → TyEs X cl es ts
  | [], ts, h => by cases h; exact .nil
  | e :: r, ts, h => by
    unfold dTys at h
    obtain ⟨t, h1, h2⟩ := opt_bind h
    obtain ⟨us, h3, h4⟩ := opt_map h2
    subst h4
    exact .cons (dTy_ok G h1) (dTys_ok G h3)
end
end Gc

end

section
set_option Elab.async false
set_option linter.all false
set_option maxRecDepth 100000
set_option maxHeartbeats 2000000
/-! the decoder is sound: expressions, on -/
namespace Gc
open PySem PySem.Spec L2
section
variable {P : Pg} {hc : Hc} {k : Nat} {fad : Nat → Addr} {Δ : Dx} {X : Cx} {cl : CL} {W : WX} {xc : List Str × List D} {rec : Expr → Option TX} {pos p apos : Pos}
theorem dIsi_ok (G : Good P hc k fad Δ X cl W xc) (R : RecAt P hc X cl W xc rec) (hg : Gl X "isinstance") (hm : X.mg "isinstance" = none) {es : List Expr} {t : TX} (h : dIsi Δ rec es = some t) : S2 P hc X cl W xc (.Call (.Name "isinstance" p) es [] pos) t := by
  unfold dIsi at h
  split at h
  · obtain ⟨h1, h2⟩ := ite_some h
    obtain ⟨u, h3, h4⟩ := opt_bind h2
    obtain ⟨us, h5, h6⟩ := opt_bind h4
    split at h6
    · rename_i hl
      cases h6
      exact s2_of rfl (fun md => se_isiT G.kit (by rw [sizeLine_eq]; omega) hg hm h1 ((R _ _ h3).v 0) (dTys_ok G h5)) rfl
    · cases h6
  · obtain ⟨h1, h2⟩ := ite_some h
    obtain ⟨h1, h1'⟩ := and2 h1
    obtain ⟨u, h3, h4⟩ := opt_bind h2
    obtain ⟨v, h5, h6⟩ := opt_map h4
    subst h6
    exact s2_of rfl (fun md => se_isi1 G.kit hg hm h1 ((R _ _ h3).v 0) (dTy_ok G h5)) rfl
  · cases h
theorem dLr_ok (G : Good P hc k fad Δ X cl W xc) (R : RecAt P hc X cl W xc rec) (hg : Gl X "list") (hm : X.mg "list" = none) {es : List Expr} {t : TX} (h : dLr Δ rec es = some t) : S2 P hc X cl W xc (.Call (.Name "list" p) es [] pos) t := by
  unfold dLr at h
  split at h
  · rename_i y p1 e p2
    obtain ⟨h1, h2⟩ := ite_some h
    obtain ⟨h1, hs⟩ := and2 h1
    obtain ⟨h1, hcm⟩ := and2 h1
    obtain ⟨h1, hb⟩ := and2 h1
    have ey := of_decide_eq_true h1
    subst ey
    obtain ⟨u, h3, h4⟩ := opt_map h2
    subst h4
    obtain ⟨h5, h6⟩ := dE1_ok R h3
    obtain ⟨g1, g2⟩ := isBlt_ok G hb
    refine s2_of rfl (fun md => ?_) rfl
    show SE X cl W _ (bltM .listRange md (evL P hc xc [u] 0))
    rw [one_ev h5]
    exact se_listRange (by rw [G.calm]; exact hcm) hg hm g1 g2 hs (h6.v 0)
  · cases h
theorem blt_one {x : Str} {b : Bl} {es : List Expr} {ts : List TX} (G : Good P hc k fad Δ X cl W xc) (R : RecAt P hc X cl W xc rec) (hg : Gl X x) (hm : X.mg x = none) (hd : (x == ("__debug__" : Str)) = false) (hb : bltOf x = some b) (hcm : (!needCalm b || Δ.calm) = true)
    (hs : noStars es = true) (hne : es.isEmpty = false) (h : dEs rec es = some ts) : S2 P hc X cl W xc (.Call (.Name x p) es [] pos) (.blt b ts) := by
  cases es with
  | nil => cases hne
  | cons e es =>
    have cm : needCalm b = true → X.calm = true := fun z => by rw [z] at hcm; rw [G.calm]; exact hcm
    refine s2_of rfl (fun md => ?_) rfl
    have sa := dEs_ok R h 0
    show SE X cl W _ (bltM b md (evL P hc xc ts 0))
    have bB : ∀ {id : String}, CallR X (.builtin id) (rB X.K cl W b md) → bootBuiltins x = some (.builtin id) → x ≠ "__name__" → SE X cl W (.Call (.Name x p) (e :: es) [] pos) (bltM b md (evL P hc xc ts 0)) := fun c hv hn => se_bltB c hg hm hv hn hd hs sa
    have bT : ∀ {id : String}, CallR X (.type id) (rB X.K cl W b md) → bootBuiltins x = some (.type id) → x ≠ "__name__" → SE X cl W (.Call (.Name x p) (e :: es) [] pos) (bltM b md (evL P hc xc ts 0)) := fun c hv hn => se_bltT c hg hm hv hn hd hs sa
    unfold bltOf at hb
    split at hb
    · rename_i e; subst e; cases hb; exact bB callr_len (by decide +kernel) (by decide)
    · split at hb
      · rename_i e; subst e; cases hb; exact bB callr_abs (by decide +kernel) (by decide)
      · split at hb
        · rename_i e; subst e; cases hb; exact bT callr_int (by decide +kernel) (by decide)
        · split at hb
          · rename_i e; subst e; cases hb; exact bT callr_str (by decide +kernel) (by decide)
          · split at hb
            · rename_i e; subst e; cases hb; exact bB (callr_all (cm rfl)) (by decide +kernel) (by decide)
            · split at hb
              · rename_i e; subst e; cases hb; exact bB (callr_any (cm rfl)) (by decide +kernel) (by decide)
              · split at hb
                · rename_i e; subst e; cases hb; exact bB (callr_sum (cm rfl)) (by decide +kernel) (by decide)
                · split at hb
                  · rename_i e; subst e; cases hb; exact bT callr_list (by decide +kernel) (by decide)
                  · split at hb
                    · rename_i e; subst e; cases hb; exact bT callr_tuple (by decide +kernel) (by decide)
                    · split at hb
                      · rename_i e; subst e; cases hb; exact bB (callr_max (cm rfl)) (by decide +kernel) (by decide)
                      · split at hb
                        · rename_i e; subst e; cases hb; exact bB (callr_min (cm rfl)) (by decide +kernel) (by decide)
                        · cases hb
theorem opt_or {α : Type} {a b : Option α} {c : α} (h : a.or b = some c) : a = some c ∨ b = some c := by
  cases a with
  | none => exact .inr h
  | some x => exact .inl h
theorem dBlt_ok (G : Good P hc k fad Δ X cl W xc) (R : RecAt P hc X cl W xc rec) {x : Str} (hg : Gl X x) (hm : X.mg x = none) (hd : (x == ("__debug__" : Str)) = false) {es : List Expr} {t : TX} (h : dBlt Δ rec x es = some t) : S2 P hc X cl W xc (.Call (.Name x p) es [] pos) t := by
  unfold dBlt at h
  split at h
  · rename_i e; subst e; exact dIsi_ok G R hg hm h
  · rcases opt_or h with h' | h'
    · split at h'
      · rename_i e; subst e; exact dLr_ok G R hg hm h'
      · cases h'
    · obtain ⟨b, h1, h2⟩ := opt_bind h'
      obtain ⟨h3, h4⟩ := ite_some h2
      obtain ⟨h3, h5⟩ := and2 h3
      obtain ⟨h3, h6⟩ := and2 h3
      obtain ⟨ts, h7, h8⟩ := opt_map h4
      subst h8
      exact blt_one G R hg hm hd h1 h3 h6 (by simpa using h5) h7
theorem dLen_ok (G : Good P hc k fad Δ X cl W xc) (R : RecAt P hc X cl W xc rec) (g1 : Gl X "len") (g : X.mg "len" = none) {es : List Expr} {t : TX} (h : dLen Δ rec es = some t) : S2 P hc X cl W xc (.Call (.Name "len" p) es [] pos) t := by
  unfold dLen at h
  split at h
  · rename_i a
    obtain ⟨h3, h4⟩ := ite_some h
    obtain ⟨hcm, hs⟩ := and2 h3
    obtain ⟨u, h5, h6⟩ := opt_map h4
    subst h6
    obtain ⟨_, rm, F⟩ := G.pf hcm
    exact s2_of rfl (fun md => se_lenO (F.mts _) rm G.tk callr_len g1 g hs ((R a u h5).v 0)) rfl
  · cases h
theorem dCallN_ok (G : Good P hc k fad Δ X cl W xc) (R : RecAt P hc X cl W xc rec) {x : Str} {es : List Expr} {t : TX} (h : dCallN P Δ rec x pos es = some t) : S2 P hc X cl W xc (.Call (.Name x p) es [] pos) t := by
  unfold dCallN at h
  by_cases hgl : isGl Δ x = true
  case neg =>
    rw [if_neg hgl] at h
    obtain ⟨h1, h2⟩ := ite_some h
    obtain ⟨h1, hne⟩ := and2 h1
    obtain ⟨hcm, hs⟩ := and2 h1
    obtain ⟨i, h3, h4⟩ := opt_bind h2
    obtain ⟨ts, h5, h6⟩ := opt_map h4
    subst h6
    obtain ⟨n1, n2, n3⟩ := dName_ok G h3
    obtain ⟨o1, o2⟩ := okNm_ok n3
    obtain ⟨_, rm, F⟩ := G.pf hcm
    refine s2_of rfl (fun md => ?_) rfl
    have sa := dEs_ok R h5 0
    cases es with
    | nil => cases hne
    | cons e es => exact se_callV (fun f q hq => by rw [F.fa f]; exact F.fns f q hq) (rm.mono (Nat.le_succ k)) G.tk n1 n2 o1 o2 hs sa
  rw [if_pos hgl] at h
  have h1 := hgl
  have h2 := h
  obtain ⟨g1, g2⟩ := isGl_ok G h1
  have g := G.gl x
  split at h2
  · rename_i f q
    rw [q] at g
    obtain ⟨gm, qf, hq⟩ := g
    obtain ⟨h3, h4⟩ := ite_some h2
    obtain ⟨hcm, hs⟩ := and2 h3
    obtain ⟨ts, h5, h6⟩ := opt_map h4
    subst h6
    obtain ⟨_, rm, F⟩ := G.pf hcm
    refine s2_of rfl (fun md => ?_) rfl
    have sa := dEs_ok R h5 0
    cases es with
    | nil =>
      cases h5
      exact se_call0 hq (F.fns f qf hq) (rm.mono (Nat.le_succ k)) G.tk g1 gm g2
    | cons e es => exact se_call hq (F.fns f qf hq) (rm.mono (Nat.le_succ k)) G.tk g1 gm g2 hs sa
  · rename_i c q
    rw [q] at g
    obtain ⟨h3, h4⟩ := ite_some h2
    obtain ⟨h3, hs⟩ := and2 h3
    obtain ⟨hpl, hcm⟩ := and2 h3
    obtain ⟨ts, h5, h6⟩ := opt_map h4
    subst h6
    obtain ⟨_, rm, F⟩ := G.pf hcm
    refine s2_of rfl (fun md => ?_) rfl
    have sa := dEs_ok R h5 0
    cases es with
    | nil =>
      cases h5
      exact se_make0 (F.mks c hpl) rm G.tk g1 g g2
    | cons e es => exact se_make (F.mks c hpl) rm G.tk g1 g g2 hs sa
  · rename_i q
    rw [q] at g
    rcases opt_or h2 with h7 | h7
    · by_cases ex : x = "len"
      · subst ex
        rw [if_pos rfl] at h7
        exact dLen_ok G R g1 g h7
      · rw [if_neg ex] at h7
        cases h7
    · exact dBlt_ok G R g1 g g2 h7
  · cases h2
/-! ### keywords, dicts -/
theorem dKws_ok (R : RecAt P hc X cl W xc rec) : ∀ {kws : List Keyword} {q : List Str × List TX}, dKws rec kws = some q → kws.map (·.arg) = q.1.map some ∧ SK X cl W kws (evL P hc xc q.2 0)
  | [], q, h => by cases h; exact ⟨rfl, sk_nil⟩
  | ⟨some n, e, kp⟩ :: r, q, h => by
    unfold dKws at h
    obtain ⟨t, h1, h2⟩ := opt_bind h
    obtain ⟨p', h3, h4⟩ := opt_map h2
    subst h4
    obtain ⟨h5, h6⟩ := dE1_ok R h1
    obtain ⟨i1, i2⟩ := dKws_ok R h3
    refine ⟨by rw [List.map_cons, i1]; rfl, ?_⟩
    show SK X cl W _ (evL P hc xc (t :: p'.2) 0)
    rw [evL_cons h5]
    exact sk_cons (h6.v 0) i2
  | ⟨none, e, kp⟩ :: r, q, h => by cases h
theorem dCallKw_ok (G : Good P hc k fad Δ X cl W xc) (R : RecAt P hc X cl W xc rec) {x : Str} {es : List Expr} {kws : List Keyword} {t : TX} (h : dCallKw P Δ rec x es kws = some t) : S2 P hc X cl W xc (.Call (.Name x p) es kws pos) t := by
  unfold dCallKw at h
  obtain ⟨h1, h2⟩ := ite_some h
  obtain ⟨h1, hs⟩ := and2 h1
  obtain ⟨h1, hcm⟩ := and2 h1
  obtain ⟨g1, g2⟩ := isGl_ok G h1
  have g := G.gl x
  split at h2
  · rename_i f q
    rw [q] at g
    obtain ⟨gm, _⟩ := g
    obtain ⟨qf, hq, h3⟩ := opt_bind h2
    obtain ⟨ts, h4, h5⟩ := opt_bind h3
    obtain ⟨kk, h6, h7⟩ := opt_bind h5
    split at h7
    · rename_i hne
      cases h7
      obtain ⟨_, rm, F⟩ := G.pf hcm
      obtain ⟨i1, i2⟩ := dKws_ok R h6
      refine s2_of rfl (fun md => ?_) rfl
      have sa := dEs_ok R h4 0
      cases es with
      | nil =>
        cases h4
        exact se_callK0 hq (F.fns f qf hq) (rm.mono (Nat.le_succ k)) G.tk g1 gm g2 i2 i1 hne
      | cons e es => exact se_callK hq (F.fns f qf hq) (rm.mono (Nat.le_succ k)) G.tk g1 gm g2 hs sa i2 i1 hne
    · cases h7
  · cases h2
theorem dMethKw_ok (G : Good P hc k fad Δ X cl W xc) (R : RecAt P hc X cl W xc rec) {o : Expr} {m : Str} {es : List Expr} {kws : List Keyword} {t : TX} (h : dMethKw Δ rec o m apos pos es kws = some t) : S2 P hc X cl W xc (.Call (.Attribute o m apos) es kws pos) t := by
  unfold dMethKw at h
  obtain ⟨h1, h2⟩ := ite_some h
  obtain ⟨h1, hcm⟩ := and2 h1
  obtain ⟨h1, hline⟩ := and2 h1
  obtain ⟨h1, hn⟩ := and2 h1
  obtain ⟨hb, hs⟩ := and2 h1
  have hn := of_decide_eq_true hn
  obtain ⟨u, h3, h4⟩ := opt_bind h2
  obtain ⟨ts, h5, h6⟩ := opt_bind h4
  obtain ⟨kk, h7, h8⟩ := opt_map h6
  subst h8
  obtain ⟨_, rm, F⟩ := G.pf hcm
  obtain ⟨i1, i2⟩ := dKws_ok R h7
  refine s2_of rfl (fun md => ?_) rfl
  have so := (R o u h3).v 0
  have sa := dEs_ok R h5 0
  cases es with
  | nil =>
    cases h5
    exact se_methK0 G.kit (F.mts m) (rm.mono (Nat.le_succ k)) G.tk hb (by simpa using hn) hline so i2 i1
  | cons e es => exact se_methK G.kit (F.mts m) (rm.mono (Nat.le_succ k)) G.tk hb hs hn hline so sa i2 i1
theorem dVals_ok (R : RecAt P hc X cl W xc rec) : ∀ {keys : List (Option Expr)} {vals : List Expr} {ks : List Key} {ts : List TX} (md : Nat), dKeys keys = some ks → dVals rec vals = some ts → keys.length = vals.length →
    PPs X pos keys vals (trsOf X.K cl W ks (ts.map fun t => ev P hc xc md t)) ∧ evL P hc xc ts md = evMs (ts.map fun t => ev P hc xc md t) ∧ ks.length = (ts.map fun t => ev P hc xc md t).length ∧ keys.all (·.isSome) = true
  | [], [], ks, ts, md, h1, h2, _ => by cases h1; cases h2; exact ⟨pps_nil, rfl, rfl, rfl⟩
  | [], _ :: _, _, _, _, _, _, hl => by simp at hl
  | _ :: _, [], _, _, _, _, _, hl => by simp at hl
  | key :: keys, e :: vals, ks, ts, md, h1, h2, hl => by
    unfold dVals at h2
    obtain ⟨t, g1, g2⟩ := opt_bind h2
    obtain ⟨us, g3, g4⟩ := opt_map g2
    subst g4
    obtain ⟨g5, g6⟩ := dE1_ok R g1
    have fin : ∀ {k0 : Key} {kr : List Key} {ke : Expr}, PE X ke (tC (kV k0)) → key = some ke → dKeys keys = some kr → ks = k0 :: kr → PPs X pos (key :: keys) (e :: vals) (trsOf X.K cl W ks ((t :: us).map fun t => ev P hc xc md t)) ∧ evL P hc xc (t :: us) md = evMs ((t :: us).map fun t => ev P hc xc md t) ∧ ks.length = ((t :: us).map fun t => ev P hc xc md t).length ∧ (key :: keys).all (·.isSome) = true := fun {k0 kr ke} pk ek hk es => by
      obtain ⟨i1, i2, i3, i4⟩ := dVals_ok R md hk g3 (by simpa using hl)
      subst ek; subst es
      refine ⟨pps_cons pk (g6.v md) i1, ?_, ?_, ?_⟩
      · rw [evL_cons g5, i2]; rfl
      · rw [List.map_cons, List.length_cons, i3, List.length_cons]
      · rw [List.all_cons, i4]; rfl
    unfold dKeys at h1
    split at h1
    · rename_i e1; cases e1
    · rename_i i n q r e1
      obtain ⟨kr, j1, j2⟩ := opt_map h1
      cases e1
      exact fin (k0 := .inl i) pe_int rfl j1 j2.symm
    · rename_i i n q r e1
      obtain ⟨kr, j1, j2⟩ := opt_map h1
      cases e1
      exact fin (k0 := .inr i) pe_str rfl j1 j2.symm
    · cases h1
theorem dDic_ok (R : RecAt P hc X cl W xc rec) {keys : List (Option Expr)} {vals : List Expr} {t : TX} {dm : Nat} (h : dDic dm rec keys vals = some t) : S2 P hc X cl W xc (.Dict keys vals pos) t := by
  unfold dDic at h
  obtain ⟨h1, h2⟩ := ite_some h
  obtain ⟨h1, hne⟩ := and2 h1
  obtain ⟨hl, h15⟩ := and2 h1
  have hl := of_decide_eq_true hl
  have h15 := of_decide_eq_true h15
  obtain ⟨ks, h3, h4⟩ := opt_bind h2
  obtain ⟨ts, h5, h6⟩ := opt_map h4
  subst h6
  refine s2_of rfl (fun md => ?_) rfl
  obtain ⟨i1, i2, i3, i4⟩ := dVals_ok R (pos := pos) (md + dm - 1) h3 h5 hl
  show SE X cl W _ (dicM (md + dm) ks (evL P hc xc ts (md + dm - 1)))
  rw [i2]
  exact se_dic i1 i4 hl (fun z => by rw [z] at hne; cases hne) h15 i3
/-! ### methods -/
theorem dMeth_ok (G : Good P hc k fad Δ X cl W xc) (R : RecAt P hc X cl W xc rec) {o : Expr} {m : Str} {es : List Expr} {t : TX} (h : dMeth Δ rec o m apos pos es = some t) : S2 P hc X cl W xc (.Call (.Attribute o m apos) es [] pos) t := by
  unfold dMeth at h
  obtain ⟨h1, h2⟩ := ite_some h
  obtain ⟨h1, hline⟩ := and2 h1
  obtain ⟨h1, hn⟩ := and2 h1
  obtain ⟨hb, hs⟩ := and2 h1
  have hn := of_decide_eq_true hn
  by_cases hsp : (decide (m = "split") && decide (es.length = 1)) = true
  · rw [if_pos hsp] at h2
    obtain ⟨e1, e2⟩ := and2 hsp
    have e1 := of_decide_eq_true e1
    subst e1
    obtain ⟨u, h5, h6⟩ := opt_bind h2
    split at h6
    · rename_i e
      obtain ⟨v, h7, h8⟩ := opt_map h6
      subst h8
      exact s2_of rfl (fun md => se_split hb (by have h9 := hs; simp only [noStars, List.all_cons, List.all_nil, Bool.and_true] at h9; exact h9) hline ((R o u h5).v 0) ((R _ v h7).v 0)) rfl
    · cases h6
  rw [if_neg hsp] at h2
  by_cases hjn : (decide (m = "join") && decide (es.length = 1)) = true
  · rw [if_pos hjn] at h2
    obtain ⟨e1, e2⟩ := and2 hjn
    have e1 := of_decide_eq_true e1
    subst e1
    obtain ⟨u, h5, h6⟩ := opt_bind h2
    split at h6
    · rename_i e
      obtain ⟨v, h7, h8⟩ := opt_map h6
      subst h8
      exact s2_of rfl (fun md => se_join hb (by have h9 := hs; simp only [noStars, List.all_cons, List.all_nil, Bool.and_true] at h9; exact h9) hline ((R o u h5).v 0) ((R _ v h7).v 0)) rfl
    · cases h6
  rw [if_neg hjn] at h2
  split at h2
  · obtain ⟨b, h3, h4⟩ := opt_bind h2
    obtain ⟨u, h5, h6⟩ := opt_bind h4
    obtain ⟨ts, h7, h8⟩ := opt_map h6
    subst h8
    refine s2_of rfl (fun md => ?_) rfl
    have so := (R o u h5).v 1
    have sa := dEs_ok R h7 0
    unfold bmOf at h3
    split at h3
    · rename_i e
      obtain ⟨e1, e2⟩ := and2 e
      have e1 := of_decide_eq_true e1
      have e2 := of_decide_eq_true e2
      subst e1
      cases h3
      cases es with
      | nil => cases e2
      | cons e es => exact se_bm PySem.F.slot_list_append PySem.F.type_list_append mtr_append hb hs hn hline so sa
    · split at h3
      · rename_i e
        obtain ⟨e1, e2⟩ := and2 e
        have e1 := of_decide_eq_true e1
        have e2 := of_decide_eq_true e2
        subst e1
        cases h3
        cases es with
        | cons e es => cases e2
        | nil => cases h7; exact se_bm0 PySem.F.slot_list_pop PySem.F.type_list_pop mtr_pop hb hline so
      · split at h3
        · rename_i e
          obtain ⟨e1, e2⟩ := and2 e
          have e1 := of_decide_eq_true e1
          have e2 := of_decide_eq_true e2
          subst e1
          cases h3
          cases es with
          | nil => cases e2
          | cons e es => exact se_bm PySem.F.slot_list_pop PySem.F.type_list_pop mtr_popAt hb hs hn hline so sa
        · split at h3
          · rename_i e
            obtain ⟨e1, e2⟩ := and2 e
            have e1 := of_decide_eq_true e1
            have e2 := of_decide_eq_true e2
            subst e1
            cases h3
            cases es with
            | cons e es => cases e2
            | nil => cases h7; exact se_bm0 PySem.F.slot_list_clear PySem.F.type_list_clear mtr_clear hb hline so
          · cases h3
  · obtain ⟨hcm, h2⟩ := ite_some h2
    obtain ⟨u, h5, h6⟩ := opt_bind h2
    obtain ⟨ts, h7, h8⟩ := opt_map h6
    subst h8
    obtain ⟨_, rm, F⟩ := G.pf hcm
    refine s2_of rfl (fun md => ?_) rfl
    have so := (R o u h5).v 0
    have sa := dEs_ok R h7 0
    cases es with
    | nil =>
      cases h7
      exact se_meth0 G.kit (F.mts m) (rm.mono (Nat.le_succ k)) G.tk hb hline so
    | cons e es => exact se_meth G.kit (F.mts m) (rm.mono (Nat.le_succ k)) G.tk hb hs hn hline so sa
theorem dAttr_ok (G : Good P hc k fad Δ X cl W xc) (R : RecAt P hc X cl W xc rec) {o : Expr} {f : Str} {t : TX} (h : dAttr P Δ rec o f = some t) : S2 P hc X cl W xc (.Attribute o f pos) t := by
  have usual : ∀ {t : TX}, (if base0 o = true then (rec o).map fun t => TX.attr t f else none) = some t → S2 P hc X cl W xc (.Attribute o f pos) t := fun {t} h => by
    obtain ⟨h1, h2⟩ := ite_some h
    obtain ⟨u, h3, h4⟩ := opt_map h2
    subst h4
    exact s2_of rfl (fun md => se_attr G.kit G.pl h1 ((R o u h3).v 0)) rfl
  unfold dAttr at h
  split at h
  · rename_i n p1
    split at h
    · rename_i hx
      obtain ⟨h1, h2⟩ := ite_some h
      obtain ⟨i, h3, h4⟩ := opt_map h2
      subst h4
      obtain ⟨a, b, c⟩ := dName_ok G h3
      exact s2_of rfl (fun md => G.xv n f i p1 pos hx a b c (by simpa using h1)) rfl
    · exact usual h
  · exact usual h
theorem dSub_ok (G : Good P hc k fad Δ X cl W xc) (R : RecAt P hc X cl W xc rec) {o i : Expr} {t : TX} (h : dSub rec o i = some t) : S2 P hc X cl W xc (.Subscript o i pos) t := by
  unfold dSub at h
  split at h
  · obtain ⟨u, h3, h4⟩ := opt_map h
    subst h4
    exact s2_of rfl (fun md => se_sl00 ((R o u h3).v 0)) rfl
  · obtain ⟨u, h3, h4⟩ := opt_bind h
    obtain ⟨v, h5, h6⟩ := opt_map h4
    subst h6
    obtain ⟨h7, h8⟩ := dE1_ok R h5
    refine s2_of rfl (fun md => ?_) rfl
    show SE X cl W _ (sl4M md true false (ev P hc xc 0 u) (evL P hc xc [v] 0))
    rw [one_ev h7]
    exact se_sl10 ((R o u h3).v 0) (h8.v 0)
  · obtain ⟨u, h3, h4⟩ := opt_bind h
    obtain ⟨v, h5, h6⟩ := opt_map h4
    subst h6
    obtain ⟨h7, h8⟩ := dE1_ok R h5
    refine s2_of rfl (fun md => ?_) rfl
    show SE X cl W _ (sl4M md false true (ev P hc xc 0 u) (evL P hc xc [v] 0))
    rw [one_ev h7]
    exact se_sl01 ((R o u h3).v 0) (h8.v 0)
  · obtain ⟨u, h3, h4⟩ := opt_map h
    subst h4
    exact s2_of rfl (fun md => se_rev ((R o u h3).v 0)) rfl
  · cases h
  · rename_i h0 h1 h2 h3 h4
    obtain ⟨u, h5, h6⟩ := opt_bind h
    obtain ⟨v, h7, h8⟩ := opt_map h6
    subst h8
    have hn : notSl i = true := by
      cases i with
      | Slice a b c p => exact absurd rfl (h4 a b c p)
      | _ => rfl
    exact s2_of rfl (fun md => se_sub (by have := G.un; omega) ((R o u h5).v 0) ((R i v h7).v 0) hn) rfl
end
end Gc

end

section
set_option Elab.async false
set_option linter.all false
set_option maxRecDepth 100000
set_option maxHeartbeats 2000000
/-! the decoder is sound: comprehensions, all expressions -/
namespace Gc
open PySem PySem.Spec L2
section
variable {P : Pg} {hc : Hc} {k : Nat} {fad : Nat → Addr} {Δ : Dx} {X : Cx} {cl : CL} {W : WX} {xc : List Str × List D} {rec : Dx → Expr → Option TX} {pos p apos : Pos}
theorem dOwn_ix {N : List Str} {names : List (Str × NameKind)} : ∀ p ∈ dOwn N names, N[p.2]? = some p.1 := fun p hp => by
  unfold dOwn at hp
  obtain ⟨y, _, h⟩ := List.mem_filterMap.mp hp
  split at h
  · obtain ⟨i, h1, h2⟩ := opt_map h
    subst h2
    exact ixOf_get h1
  · cases h
theorem ixOf_mem {x : Str} : ∀ {N : List Str}, x ∈ N → ∃ i, ixOf x N = some i
  | y :: r, h => by
    unfold ixOf
    by_cases e : y = x
    · rw [if_pos e]; exact ⟨0, rfl⟩
    · rw [if_neg e]
      rcases List.mem_cons.mp h with z | z
      · exact absurd z.symm e
      · obtain ⟨i, hi⟩ := ixOf_mem z
        rw [hi]
        exact ⟨i + 1, rfl⟩
theorem blk_ok (G : Good P hc k fad Δ X cl W xc) {scope : Scope} (h : blkB Δ.sc scope = true) : BlkOk X.N X.env.scope scope (dOwn Δ.N scope.names) := by
  unfold blkB at h
  obtain ⟨h, h3⟩ := and2 h
  obtain ⟨h1, h2⟩ := and2 h
  refine ⟨of_decide_eq_true h1, fun y hy => ?_, fun p hp => ?_, fun y hy e => ?_, fun y hy e => ?_⟩
  · exact of_decide_eq_true (List.all_eq_true.mp h2 y hy)
  · rw [G.N]; exact dOwn_ix p hp
  · have z := List.all_eq_true.mp h3 y hy
    rw [e] at z
    rw [G.sc]
    rcases Bool.or_eq_true_iff.mp z with z | z
    · rcases Bool.or_eq_true_iff.mp z with z | z
      · cases z
      · exact .inl (of_decide_eq_true z)
    · exact .inr (of_decide_eq_true z)
  · rw [G.N]
    by_cases hm : y.1 ∈ Δ.N
    · obtain ⟨i, hi⟩ := ixOf_mem hm
      refine .inl (List.mem_map.mpr ⟨(y.1, i), ?_, rfl⟩)
      unfold dOwn
      refine List.mem_filterMap.mpr ⟨y, hy, ?_⟩
      rw [if_pos e, hi]
      rfl
    · exact .inr hm
theorem Good.block (G : Good P hc k fad Δ X cl W xc) (hcm : Δ.calm = true) {scope : Scope} (hk : scope.kind = .function) (s : Shared) (H : Hp) (C : Addr) (cll : List (Str × Addr)) (fp : List Addr) :
    Good P hc k fad (Δ.block scope) (X.blk s H scope (compEnvC scope cll C X.env) fp) cl W0 xc where
  N := G.N
  nd := G.nd
  sc := by
    show relS scope X.env.scope = relS scope Δ.sc
    rw [G.sc]
  kd := hk
  fn := rfl
  calm := G.calm
  gl := G.gl
  kit := G.kit
  pl := G.pl
  un := G.un
  tk := takes_none5
  top := fun z => by cases z
  pf := G.pf
  xv := fun n f i p pos z => by
    have := (G.pf hcm).1
    rw [show (Δ.block scope).xv = Δ.xv from rfl, this] at z
    cases z
theorem dIfs_ok {r : Expr → Option TX} {X : Cx} {W : WX} (R : RecAt P hc X cl W xc r) : ∀ {es : List Expr} {ts : List TX}, dIfs r es = some ts → PTs X es (rd relB X.K cl W (evTs P hc xc ts))
  | [], ts, h => by cases h; exact ts_nil
  | [e], ts, h => by
    unfold dIfs at h
    obtain ⟨t, h1, h2⟩ := opt_map h
    subst h2
    exact ts_one (R e t h1).t
  | _ :: _ :: _, ts, h => by cases h
theorem slots_sub {tg : Gc.TG} {l : List Nat} (h : (tg.slots.all fun i => l.contains i) = true) : ∀ i ∈ tg.slots, i ∈ l := fun i hi => by
  have := List.all_eq_true.mp h i hi
  simpa using this
theorem dComp_ok (G : Good P hc k fad Δ X cl W xc) (R : RecOk P hc k fad rec) {elt : Expr} {gs : List Comprehension} {scope : Scope} {t : TX} (h : dComp Δ rec elt gs scope = some t) : S2 P hc X cl W xc (.ListComp elt gs scope pos) t ∧
    ∀ (i : Nat) (y : Str) (py spos : Pos), X.N[i]? = some y → X.env.scope.names.lookup y = some .local → swapsWith (.ListComp elt gs scope pos) (some (.Name y py)) spos.line X.env = pure true → ∀ md, SS X cl W (.Assign [.Name y py] (.ListComp elt gs scope pos) spos) (M.bind (ev P hc xc md t) fun d => M.bind (bindT (.one i) d) fun _ => M.pure .nx) := by
  unfold dComp at h
  obtain ⟨h1, h2⟩ := ite_some h
  obtain ⟨hcm, hbl⟩ := and2 h1
  have bo := blk_ok G hbl
  have cm : X.calm = true := by rw [G.calm]; exact hcm
  have GB := fun s H C cll fp => G.block hcm bo.kind s H C cll fp
  have RB : ∀ s H C cll fp, RecAt P hc (X.blk s H scope (compEnvC scope cll C X.env) fp) cl W0 xc (rec (Δ.block scope)) := fun s H C cll fp e t he => R _ e t he _ _ _ _ (GB s H C cll fp)
  have R0 : RecAt P hc X cl W xc (rec Δ) := fun e t he => R _ e t he _ _ _ _ G
  split at h2
  · rename_i tg iter ifs
    obtain ⟨hset, h2⟩ := ite_some h2
    obtain ⟨ki, h3, h2⟩ := opt_bind h2
    obtain ⟨tgD, h4, h2⟩ := opt_bind h2
    obtain ⟨h5, h2⟩ := ite_some h2
    obtain ⟨us, h6, h2⟩ := opt_bind h2
    obtain ⟨u, h7, h8⟩ := opt_map h2
    subst h8
    have hi := dIt_ok G R0 (tg := tg) h3
    refine ⟨s2_of rfl (fun md => ?_) rfl, fun i y py spos hy hyl hsw md => ?_⟩
    · exact se_lc (me := ev P hc xc (md - 1) u) cm G.nd hi bo hset (fun s H C cll fp => dTg_ok (GB s H C cll fp) h4) (slots_sub h5) (fun s H C cll fp => dIfs_ok (RB s H C cll fp) h6) (fun s H C cll fp => (RB s H C cll fp elt u h7).v (md - 1))
    · exact ss_setLc (me := ev P hc xc (md - 1) u) cm G.nd hy hyl hsw hi bo hset (fun s H C cll fp => dTg_ok (GB s H C cll fp) h4) (slots_sub h5) (fun s H C cll fp => dIfs_ok (RB s H C cll fp) h6) (fun s H C cll fp => (RB s H C cll fp elt u h7).v (md - 1))
  · rename_i tg iter ifs tg1 iter1 ifs1
    obtain ⟨hset, h2⟩ := ite_some h2
    obtain ⟨hset, hset1⟩ := and2 hset
    obtain ⟨ki, h3, h2⟩ := opt_bind h2
    obtain ⟨tgD, h4, h2⟩ := opt_bind h2
    obtain ⟨ki1, h3', h2⟩ := opt_bind h2
    obtain ⟨tgD1, h4', h2⟩ := opt_bind h2
    obtain ⟨h5, h2⟩ := ite_some h2
    obtain ⟨h5, h5'⟩ := and2 h5
    obtain ⟨us, h6, h2⟩ := opt_bind h2
    obtain ⟨us1, h6', h2⟩ := opt_bind h2
    obtain ⟨u, h7, h8⟩ := opt_map h2
    subst h8
    have hi := dIt_ok G R0 (tg := tg) h3
    refine ⟨s2_of rfl (fun md => ?_) rfl, fun i y py spos hy hyl hsw md => ?_⟩
    · exact se_lc2 (me := ev P hc xc (md - 1) u) cm G.nd hi bo hset hset1 (slots_sub h5') (fun s H C cll fp => dTg_ok (GB s H C cll fp) h4) (slots_sub h5) (fun s H C cll fp => dIfs_ok (RB s H C cll fp) h6)
        (fun s H C cll fp => dIt_ok (GB s H C cll fp) (RB s H C cll fp) h3') (fun s H C cll fp => dTg_ok (GB s H C cll fp) h4') (fun i hi => hi) (fun s H C cll fp => dIfs_ok (RB s H C cll fp) h6') (fun s H C cll fp => (RB s H C cll fp elt u h7).v (md - 1))
    · exact ss_setLc2 (me := ev P hc xc (md - 1) u) cm G.nd hy hyl hsw hi bo hset hset1 (slots_sub h5') (fun s H C cll fp => dTg_ok (GB s H C cll fp) h4) (slots_sub h5) (fun s H C cll fp => dIfs_ok (RB s H C cll fp) h6)
        (fun s H C cll fp => dIt_ok (GB s H C cll fp) (RB s H C cll fp) h3') (fun s H C cll fp => dTg_ok (GB s H C cll fp) h4') (fun i hi => hi) (fun s H C cll fp => dIfs_ok (RB s H C cll fp) h6') (fun s H C cll fp => (RB s H C cll fp elt u h7).v (md - 1))
  · cases h2
theorem st_neg {a : Expr} {ma : M D} (ha : SE X cl W (.UnaryOp .USub a pos) ma) : ST X cl W (.UnaryOp .USub a pos) (truM ma) := by
  refine PT.weak (pt_truth ha (fun whole => rfl)) fun σ H Q h => ?_
  obtain ⟨R, τ, hH, A, h⟩ := truM_bl h
  exact ⟨R, τ, hH, A, rdAt_mono h fun x H1 ⟨R1, τ1, d, k, e1, A1, r1, hk, q⟩ => ⟨k, by subst e1; exact tru_V A1.cells r1 hk, q⟩⟩
theorem st_ife {c a b : Expr} {kc ka kb : M Bool} (h1 : ST X cl W c kc) (h2 : ST X cl W a ka) (h3 : ST X cl W b kb) : ST X cl W (.IfExp c a b pos) (M.bind kc fun k => if k then ka else kb) := by
  refine ⟨fun pins s σ H Q I h => ?_⟩
  obtain ⟨R, τ, hH, A, h⟩ := h
  refine PyProof.Rows.isTrue_IfExp (thn (h1.run pins s σ H _ I ⟨R, τ, hH, A, rdAt_bind (rel := relB) h⟩) fun k s1 ⟨H1, I1, R1, τ1, d, e1, x1, A1, r1, h1⟩ => ?_)
  subst r1
  cases k with
  | true => exact h2.run pins s1 σ H1 Q I1 ⟨R1, τ1, e1, A1, h1⟩
  | false => exact h3.run pins s1 σ H1 Q I1 ⟨R1, τ1, e1, A1, h1⟩
theorem dStep_ok (R : RecOk P hc k fad rec) : RecOk P hc k fad (dStep P rec) := by
  intro Δ e t h X cl W xc G
  have R0 : RecAt P hc X cl W xc (rec Δ) := fun e t he => R _ e t he _ _ _ _ G
  unfold dStep at h
  split at h
  · rename_i x p
    by_cases hg : isGl Δ x = true
    · rw [if_pos hg] at h
      obtain ⟨g1, g2⟩ := isGl_ok G hg
      have g := G.gl x
      split at h
      · rename_i f q
        rw [q] at g
        obtain ⟨gm, qf, hq⟩ := g
        obtain ⟨hcm, h⟩ := ite_some h
        cases h
        obtain ⟨_, rm, F⟩ := G.pf hcm
        exact s2_of rfl (fun md => se_fnv g1 (by rw [F.fa f]; exact gm) g2) rfl
      · cases h
    · rw [if_neg hg] at h
      obtain ⟨i, h1, h2⟩ := opt_map h
      subst h2
      obtain ⟨a, b, c⟩ := dName_ok G h1
      obtain ⟨c1, c2⟩ := okNm_ok c
      exact s2_of rfl (fun md => se_var a b c1 c2) rfl
  · cases h; exact s2_of rfl (fun md => se_con_non) rfl
  · cases h; exact s2_of rfl (fun md => se_con_bl) rfl
  · cases h; exact s2_of rfl (fun md => se_con_int) rfl
  · cases h; exact s2_of rfl (fun md => se_con_str) rfl
  · obtain ⟨u, h1, h2⟩ := opt_bind h
    obtain ⟨v, h3, h4⟩ := opt_map h2
    subst h4
    exact s2_of rfl (fun md => se_bin ((R0 _ _ h1).v 0) ((R0 _ _ h3).v 0)) rfl
  · obtain ⟨u, h1, h2⟩ := opt_map h
    subst h2
    exact ⟨fun md => se_neg ((R0 _ _ h1).v 0), st_neg (se_neg ((R0 _ _ h1).v 0))⟩
  · obtain ⟨u, h1, h2⟩ := opt_map h
    subst h2
    exact ⟨fun md => se_not ((R0 _ _ h1).v 0), st_not (R0 _ _ h1).t⟩
  · obtain ⟨hs, h⟩ := ite_some h
    obtain ⟨u, h1, h2⟩ := opt_bind h
    obtain ⟨v, h3, h4⟩ := opt_map h2
    subst h4
    by_cases hcm : Δ.calm = true
    · rw [if_pos hcm]
      obtain ⟨_, rm, F⟩ := G.pf hcm
      have rm2 := rm.mono (Nat.le_succ k)
      exact ⟨fun md => se_cmpO G.un G.kit (F.mts _) rm2 G.tk ((R0 _ _ h1).v 0) ((R0 _ _ h3).v 0) hs, st_cmpO G.un G.kit (F.mts _) rm2 G.tk ((R0 _ _ h1).v 0) ((R0 _ _ h3).v 0) hs⟩
    · rw [if_neg hcm]
      exact ⟨fun md => se_cmp G.un ((R0 _ _ h1).v 0) ((R0 _ _ h3).v 0) hs, st_cmp G.un ((R0 _ _ h1).v 0) ((R0 _ _ h3).v 0) hs⟩
  · obtain ⟨hs, h⟩ := ite_some h
    obtain ⟨u, h1, h2⟩ := opt_bind h
    obtain ⟨v, h3, h4⟩ := opt_bind h2
    obtain ⟨w, h5, h6⟩ := opt_map h4
    subst h6
    exact ⟨fun md => se_chn G.un ((R0 _ _ h1).v 0) ((R0 _ _ h3).v 0) ((R0 _ _ h5).v 0) hs, st_chn G.un ((R0 _ _ h1).v 0) ((R0 _ _ h3).v 0) ((R0 _ _ h5).v 0) hs⟩
  · obtain ⟨a, b⟩ := dBool_ok R0 h
    exact ⟨a, b.pt⟩
  · obtain ⟨u, h1, h2⟩ := opt_bind h
    obtain ⟨v, h3, h4⟩ := opt_bind h2
    obtain ⟨w, h5, h6⟩ := opt_map h4
    subst h6
    exact ⟨fun md => se_ife (R0 _ _ h1).t ((R0 _ _ h3).v md) ((R0 _ _ h5).v md), st_ife (R0 _ _ h1).t (R0 _ _ h3).t (R0 _ _ h5).t⟩
  · obtain ⟨ts, h1, h2⟩ := opt_map h
    subst h2
    exact s2_of rfl (fun md => se_tup (dEs_ok R0 h1 0)) rfl
  · obtain ⟨ts, h1, h2⟩ := opt_map h
    subst h2
    exact s2_of rfl (fun md => se_lst (dEs_ok R0 h1 (md - 1))) rfl
  · exact (dComp_ok G R h).1
  · exact dCallN_ok G R0 h
  · exact dMeth_ok G R0 h
  · exact dCallKw_ok G R0 h
  · exact dMethKw_ok G R0 h
  · exact dDic_ok R0 h
  · exact dAttr_ok G R0 h
  · exact dSub_ok G R0 h
  · cases h
theorem dE_ok : ∀ n, RecOk P hc k fad (dE P n)
  | 0 => fun Δ e t h => by cases h
  | n + 1 => dStep_ok (dE_ok n)
end
end Gc

end

section
set_option Elab.async false
set_option linter.all false
set_option maxRecDepth 100000
set_option maxHeartbeats 2000000
/-! the decoder is sound: statements -/
namespace Gc
open PySem PySem.Spec L2
section
variable {P : Pg} {hc : Hc} {k : Nat} {fad : Nat → Addr} {Δ : Dx} {X : Cx} {cl : CL} {W : WX} {xc : List Str × List D} {rec : Expr → Option TX} {pos p apos : Pos}
theorem blockK (G : Good P hc k fad Δ X cl W xc) : X.env.blockKind = .function := by
  unfold Env.blockKind
  rw [G.sc, G.kd]
  rfl
theorem sw_eq (G : Good P hc k fad Δ X cl W xc) {e : Expr} {x : Str} {l : Nat} (h : lcOk e = true) : swapsWith e (some (.Name x p)) l X.env = pure (swB Δ x p e) := by
  cases e with
  | ListComp elt gs s q =>
    unfold swapsWith swB
    have hk : X.env.kindOf x = Δ.sc.names.lookup x := by show X.env.scope.names.lookup x = _; rw [G.sc]
    simp only [blockK G, hk, Expr.pos]
    have : (Δ.sc.names.lookup x == some NameKind.local) = decide (Δ.sc.names.lookup x = some .local) := by
      by_cases z : Δ.sc.names.lookup x = some .local
      · rw [z]; rfl
      · rw [decide_eq_false z]
        exact beq_eq_false_iff_ne.mpr z
    rw [this]
    simp
  | SetComp => cases h
  | DictComp => cases h
  | _ => rfl
theorem noStars_any : ∀ {vs : List Expr}, noStars vs = true → (vs.any fun | .Starred .. => true | _ => false) = false
  | [], _ => rfl
  | e :: r, h => by
    obtain ⟨h1, h2⟩ := and2 (show (notStar e && noStars r) = true from h)
    rw [List.any_cons, noStars_any h2, Bool.or_false]
    cases e <;> first | rfl | cases h1
theorem not_true {b : Bool} (h : (!b) = true) : b = false := by cases b <;> first | rfl | cases h
theorem sws2 (G : Good P hc k fad Δ X cl W xc) {x y : Str} {px py pt pt2 : Pos} {a b : Expr} {kt k2 : Nat} (h : parOk Δ [a, b] [(x, px), (y, py)] = true) (hne : x ≠ y) :
    swappedStores [.Tuple [.Name x px, .Name y py] kt pt] (.Tuple [a, b] k2 pt2) X.env = pure (some [x, y]) ∧ X.env.scope.names.lookup x = some .local ∧ X.env.scope.names.lookup y = some .local := by
  unfold parOk at h
  obtain ⟨h, h5⟩ := and2 h
  obtain ⟨h, h4⟩ := and2 h
  obtain ⟨h, h3⟩ := and2 h
  obtain ⟨h1, h2⟩ := and2 h
  have kx : X.env.scope.names.lookup x = some .local := by rw [G.sc]; exact of_decide_eq_true (List.all_eq_true.mp h2 (x, px) (by simp))
  have ky : X.env.scope.names.lookup y = some .local := by rw [G.sc]; exact of_decide_eq_true (List.all_eq_true.mp h2 (y, py) (by simp))
  have l2 : (py.line == px.line) = true := List.all_eq_true.mp h3 (y, py) (by simp)
  have kx' : X.env.kindOf x = some .local := kx
  have ky' : X.env.kindOf y = some .local := ky
  have h4' : ([a, b].all (foldedForSure 8)) = false := not_true h4
  have h5' : ([a, b].all (constantsAlone 8)) = false := not_true h5
  refine ⟨?_, kx, ky⟩
  unfold swappedStores
  have hs := noStars_any h1
  have hl : ([a, b] : List Expr).length = 2 := rfl
  have hns : ∀ e ∈ ([a, b] : List Expr), notStar e = true := List.all_eq_true.mp h1
  generalize ([a, b] : List Expr) = vs at hs h4' h5' hl hns ⊢
  have ed : [x, y].eraseDups = [x, y] := by
    have : (y == x) = false := beq_eq_false_iff_ne.mpr hne.symm
    simp [List.eraseDups_cons, this]
  simp only [blockK G, List.length_cons, List.length_nil, List.head?_cons, Option.map_some, Option.getD_some, Expr.pos, List.filterMap_cons, List.filterMap_nil, kx', ky', l2, h4', h5', hs, hl]
  simp [ed]
  intro e he hz
  have := hns e he
  cases e <;> first | (cases this; done) | (cases hz; done)
theorem sws3 (G : Good P hc k fad Δ X cl W xc) {x y z : Str} {px py pz pt pt2 : Pos} {a b c : Expr} {kt k2 : Nat} (h : parOk Δ [a, b, c] [(x, px), (y, py), (z, pz)] = true) (hxy : x ≠ y) (hxz : x ≠ z) (hyz : y ≠ z) :
    swappedStores [.Tuple [.Name x px, .Name y py, .Name z pz] kt pt] (.Tuple [a, b, c] k2 pt2) X.env = pure (some [x, y, z]) ∧ X.env.scope.names.lookup x = some .local ∧ X.env.scope.names.lookup y = some .local ∧ X.env.scope.names.lookup z = some .local := by
  unfold parOk at h
  obtain ⟨h, h5⟩ := and2 h
  obtain ⟨h, h4⟩ := and2 h
  obtain ⟨h, h3⟩ := and2 h
  obtain ⟨h1, h2⟩ := and2 h
  have kx : X.env.scope.names.lookup x = some .local := by rw [G.sc]; exact of_decide_eq_true (List.all_eq_true.mp h2 (x, px) (by simp))
  have ky : X.env.scope.names.lookup y = some .local := by rw [G.sc]; exact of_decide_eq_true (List.all_eq_true.mp h2 (y, py) (by simp))
  have kz : X.env.scope.names.lookup z = some .local := by rw [G.sc]; exact of_decide_eq_true (List.all_eq_true.mp h2 (z, pz) (by simp))
  have l2 : (py.line == px.line) = true := List.all_eq_true.mp h3 (y, py) (by simp)
  have l3 : (pz.line == px.line) = true := List.all_eq_true.mp h3 (z, pz) (by simp)
  have kx' : X.env.kindOf x = some .local := kx
  have ky' : X.env.kindOf y = some .local := ky
  have kz' : X.env.kindOf z = some .local := kz
  have h4' : ([a, b, c].all (foldedForSure 8)) = false := not_true h4
  have h5' : ([a, b, c].all (constantsAlone 8)) = false := not_true h5
  refine ⟨?_, kx, ky, kz⟩
  unfold swappedStores
  have hs := noStars_any h1
  have hl : ([a, b, c] : List Expr).length = 3 := rfl
  have hns : ∀ e ∈ ([a, b, c] : List Expr), notStar e = true := List.all_eq_true.mp h1
  generalize ([a, b, c] : List Expr) = vs at hs h4' h5' hl hns ⊢
  have ed : [x, y, z].eraseDups = [x, y, z] := by
    have e1 : (y == x) = false := beq_eq_false_iff_ne.mpr hxy.symm
    have e2 : (z == x) = false := beq_eq_false_iff_ne.mpr hxz.symm
    have e3 : (z == y) = false := beq_eq_false_iff_ne.mpr hyz.symm
    simp [List.eraseDups_cons, e1, e2, e3]
  simp only [blockK G, List.length_cons, List.length_nil, List.head?_cons, Option.map_some, Option.getD_some, Expr.pos, List.filterMap_cons, List.filterMap_nil, kx', ky', kz', l2, l3, h4', h5', hs, hl]
  simp [ed]
  intro e he hz
  have := hns e he
  cases e <;> first | (cases this; done) | (cases hz; done)
theorem sws_long {ts vs : List Expr} {kt k2 : Nat} {pt pt2 : Pos} (h : 3 < ts.length) : swappedStores [.Tuple ts kt pt] (.Tuple vs k2 pt2) X.env = pure none := by
  unfold swappedStores
  have h2 : (ts.length == 2) = false := beq_eq_false_iff_ne.mpr (by omega)
  have h3 : (ts.length == 3) = false := beq_eq_false_iff_ne.mpr (by omega)
  simp [h2, h3]
theorem sws_other {ts : List Expr} {kt : Nat} {pt : Pos} {e : Expr} (h : isTupE e = false) : swappedStores [.Tuple ts kt pt] e X.env = pure none := by
  cases e <;> first | rfl | cases h
theorem dAsgT_ok (G : Good P hc k fad Δ X cl W xc) (R : RecAt P hc X cl W xc rec) {ts : List Expr} {kk : Nat} {tpos : Pos} {e : Expr} {t : Gc.TS} (h : dAsgT Δ rec ts e = some t) (rmd : Nat) : SS X cl W (.Assign [.Tuple ts kk tpos] e pos) (exS P hc xc rmd t) := by
  unfold dAsgT at h
  split at h
  · rename_i x px y py a b k2 p2
    obtain ⟨h1, h⟩ := ite_some h
    obtain ⟨h1, hxy⟩ := and2 h1
    obtain ⟨hcm, hp⟩ := and2 h1
    obtain ⟨i, i1, h⟩ := opt_bind h
    obtain ⟨j, j1, h⟩ := opt_bind h
    obtain ⟨u, u1, h⟩ := opt_bind h
    obtain ⟨v, v1, h⟩ := opt_map h
    subst h
    have hne : x ≠ y := by simpa using hxy
    obtain ⟨i2, i3, _⟩ := dTgN_ok G i1
    obtain ⟨j2, j3, _⟩ := dTgN_ok G j1
    obtain ⟨u2, u3⟩ := dE1_ok R u1
    obtain ⟨v2, v3⟩ := dE1_ok R v1
    obtain ⟨w, w1, w2⟩ := sws2 (kt := kk) (pt := tpos) (k2 := k2) (pt2 := p2) G hp hne
    have hij : i ≠ j := fun z => by rw [z, j2] at i2; exact hne (Option.some.inj i2).symm
    have hs : noStars [a, b] = true := by unfold parOk at hp; exact (and2 (and2 (and2 (and2 hp).1).1).1).1
    obtain ⟨sa, sb⟩ := and2 (show (notStar a && noStars [b]) = true from hs)
    obtain ⟨sb, _⟩ := and2 (show (notStar b && noStars []) = true from sb)
    show SS X cl W _ (M.bind (evL P hc xc [u, v] 0) fun ds => M.bind (setVs [i, j] ds) fun _ => M.pure .nx)
    rw [two_ev u2 v2]
    exact ss_par (by rw [G.calm]; exact hcm) G.nd i2 j2 hij w1 w2 (sa_cons sa (u3.v 0) (sa_cons sb (v3.v 0) sa_nil)) w
  · rename_i x px y py z pz a b c k2 p2
    obtain ⟨h1, h⟩ := ite_some h
    obtain ⟨h1, hyz⟩ := and2 h1
    obtain ⟨h1, hxz⟩ := and2 h1
    obtain ⟨h1, hxy⟩ := and2 h1
    obtain ⟨hcm, hp⟩ := and2 h1
    obtain ⟨i, i1, h⟩ := opt_bind h
    obtain ⟨j, j1, h⟩ := opt_bind h
    obtain ⟨l, l1, h⟩ := opt_bind h
    obtain ⟨u, u1, h⟩ := opt_bind h
    obtain ⟨v, v1, h⟩ := opt_bind h
    obtain ⟨w, w1, h⟩ := opt_map h
    subst h
    have nxy : x ≠ y := by simpa using hxy
    have nxz : x ≠ z := by simpa using hxz
    have nyz : y ≠ z := by simpa using hyz
    obtain ⟨i2, i3, _⟩ := dTgN_ok G i1
    obtain ⟨j2, j3, _⟩ := dTgN_ok G j1
    obtain ⟨l2, l3, _⟩ := dTgN_ok G l1
    obtain ⟨u2, u3⟩ := dE1_ok R u1
    obtain ⟨v2, v3⟩ := dE1_ok R v1
    obtain ⟨w2, w3⟩ := dE1_ok R w1
    obtain ⟨q, q1, q2, q3⟩ := sws3 (kt := kk) (pt := tpos) (k2 := k2) (pt2 := p2) G hp nxy nxz nyz
    have hij : i ≠ j := fun z => by rw [z, j2] at i2; exact nxy (Option.some.inj i2).symm
    have hil : i ≠ l := fun z => by rw [z, l2] at i2; exact nxz (Option.some.inj i2).symm
    have hjl : j ≠ l := fun z => by rw [z, l2] at j2; exact nyz (Option.some.inj j2).symm
    have hs : noStars [a, b, c] = true := by unfold parOk at hp; exact (and2 (and2 (and2 (and2 hp).1).1).1).1
    obtain ⟨sa, sb⟩ := and2 (show (notStar a && noStars [b, c]) = true from hs)
    obtain ⟨sb, sc⟩ := and2 (show (notStar b && noStars [c]) = true from sb)
    obtain ⟨sc, _⟩ := and2 (show (notStar c && noStars []) = true from sc)
    show SS X cl W _ (M.bind (evL P hc xc [u, v, w] 0) fun ds => M.bind (setVs [i, j, l] ds) fun _ => M.pure .nx)
    rw [evL_cons u2, evL_cons v2, evL_cons w2]
    exact ss_par3 (by rw [G.calm]; exact hcm) G.nd i2 j2 l2 hij hil hjl q1 q2 q3 (sa_cons sa (u3.v 0) (sa_cons sb (v3.v 0) (sa_cons sc (w3.v 0) sa_nil))) q
  · rename_i vs k2 p2 _ _
    obtain ⟨h1, h⟩ := ite_some h
    obtain ⟨hcm, hl⟩ := and2 h1
    obtain ⟨is, i1, h⟩ := opt_bind h
    obtain ⟨u, u1, h⟩ := opt_map h
    subst h
    exact ss_unp (tg_tup G.nd (by rw [G.calm]; exact hcm) (dTgs_ok G i1)) rfl (sws_long (of_decide_eq_true hl)) ((R _ _ u1).v 0)
  · rename_i hno _ _
    obtain ⟨h1, h⟩ := ite_some h
    obtain ⟨hcm, hl⟩ := and2 h1
    obtain ⟨is, i1, h⟩ := opt_bind h
    obtain ⟨u, u1, h⟩ := opt_map h
    subst h
    have ht : isTupE e = false := by
      cases e with
      | Tuple vs k2 p2 => exact absurd rfl (by first | exact hno vs k2 p2 | (rename_i q; exact q vs k2 p2))
      | _ => rfl
    exact ss_unp (tg_tup G.nd (by rw [G.calm]; exact hcm) (dTgs_ok G i1)) hl (sws_other ht) ((R _ _ u1).v 0)
theorem dRse_ok (G : Good P hc k fad Δ X cl W xc) (R : RecAt P hc X cl W xc rec) {e : Expr} {t : Gc.TS} (h : dRse P Δ rec e = some t) (rmd : Nat) : SS X cl W (.Raise (some e) none pos) (exS P hc xc rmd t) := by
  unfold dRse at h
  split at h
  · rename_i x p1 a p2
    obtain ⟨h1, h⟩ := ite_some h
    obtain ⟨h1, hs⟩ := and2 h1
    obtain ⟨hcm, hg⟩ := and2 h1
    obtain ⟨g1, g2⟩ := isGl_ok G hg
    have g := G.gl x
    split at h
    · rename_i c qc
      rw [qc] at g
      obtain ⟨q, hq, h⟩ := opt_bind h
      split at h
      · rename_i f hx
        obtain ⟨u, u1, h⟩ := opt_map h
        subst h
        obtain ⟨u2, u3⟩ := dE1_ok R u1
        obtain ⟨_, rm, F⟩ := G.pf hcm
        show SS X cl W _ (M.bind (evL P hc xc [u] 0) fun ds => rseM P c ds)
        rw [one_ev u2]
        have hs' : noStars [a] = true := by show (notStar a && true) = true; rw [hs]; rfl
        exact ss_rse1 (by rw [G.calm]; exact hcm) G.tk hq hx (F.xcs c q f hq hx) rm g1 g g2 hs' (sa_cons hs (u3.v 0) sa_nil)
      · cases h
    · cases h
  · cases h
end
end Gc

end

section
set_option Elab.async false
set_option linter.all false
set_option maxRecDepth 100000
set_option maxHeartbeats 2000000
/-! the decoder is sound: statements, on -/
namespace Gc
open PySem PySem.Spec L2
section
variable {P : Pg} {hc : Hc} {k : Nat} {fad : Nat → Addr} {Δ : Dx} {X : Cx} {cl : CL} {W : WX} {xc : List Str × List D} {rec : Expr → Option TX} {pos p apos : Pos} {nE : Nat}
theorem Good.tr (G : Good P hc k fad Δ X cl W xc) (hcm : Δ.calm = true) {W' : WX} {pn : List (Addr × Obj)} {xe : Value → Shared → Prop} (tk : Takes (X.tr pn xe) W') (po : PassesOwn (model X.prog X.w) X.A X.env xe) : Good P hc k fad Δ (X.tr pn xe) cl W' xc where
  N := G.N
  nd := G.nd
  sc := G.sc
  kd := G.kd
  fn := G.fn
  calm := G.calm
  gl := G.gl
  kit := G.kit
  pl := G.pl
  un := G.un
  tk := tk
  top := fun z => ⟨(G.top z).1, (G.top z).2.1, po⟩
  pf := G.pf
  xv := fun n f i p pos z => by rw [(G.pf hcm).1] at z; cases z
theorem tyD_rz (cl : CL) (Z : Option (Addr × List Str × List D)) (ea : Option Addr) : ∀ d, tyD (cl.rz Z ea) d = tyD cl d := fun d => by cases d <;> rfl
theorem tyT_rz (cl : CL) (Z : Option (Addr × List Str × List D)) (ea : Option Addr) : ∀ t, tyT (cl.rz Z ea) t = tyT cl t := fun t => by cases t <;> rfl
theorem Kit.rz {K : PySem.W.Frag} (h : Kit K cl P) (Z : Option (Addr × List Str × List D)) (ea : Option Addr) : Kit K (cl.rz Z ea) P :=
  ⟨h.cls, h.noat, h.ty, fun d t h1 h2 => by rw [tyD_rz, tyT_rz]; exact h.kit d t h1 h2, fun c d h1 h2 => by rw [tyD_rz]; exact h.nf c d h1 h2⟩
theorem isUp_some {c h : Nat} {b : Bool} (e : isUp P c h = some b) : ∃ q, P.cl c = some q ∧ q.exc.isSome = true := by
  unfold isUp at e
  cases q : P.cl c with
  | none => rw [q] at e; cases e
  | some r =>
    rw [q] at e
    dsimp only at e
    split at e
    · exact ⟨r, rfl, by assumption⟩
    · cases e
theorem glok_rz {x : Str} {g : Gk} {mg : Str → Option Value} {Z : Option (Addr × List Str × List D)} {ea : Option Addr} (h : GlOk P fad mg cl x g) : GlOk P fad mg (cl.rz Z ea) x g := by
  cases g <;> exact h
theorem Good.su (G : Good P hc k fad Δ X cl W xc) (hcm : Δ.calm = true) {on : Option Str} {a : Addr} {oe : Obj} {cls : Value} {d : Option Addr} {pn : List (Addr × Obj)} (hz : Zc cls d oe) (hf : ∃ vs, oe.data = .fields vs) {c hn : Nat} {ns : List Str} {xs : List D}
    (hcls : cls = .ref (cl c)) (hup : isUp P c hn = some true) (hd0 : d = none → ns = []) : Good P hc k fad (Δ.su on) (X.suite a ((a, oe) :: pn)) (clX cl a d ns xs) W0 (ns, xs) where
  N := G.N
  nd := G.nd
  sc := G.sc
  kd := G.kd
  fn := G.fn
  calm := rfl
  gl := fun x => glok_rz (G.gl x)
  kit := G.kit.rz _ _
  pl := G.pl
  un := G.un
  tk := takes_none5
  top := fun z => by cases z
  pf := fun z => by cases z
  xv := fun n f i p pos z hN hv ho hfx => by
    obtain ⟨q, hq, hx⟩ := isUp_some hup
    obtain ⟨T, hno⟩ := (G.pf hcm).2.2.xff c q hq hx
    obtain ⟨o1, o2⟩ := okNm_ok ho
    exact se_exf (X := X) (cl := cl) T (hno f hfx) hcls hd0 hz hf hN hv o1 o2
structure AllOk (P : Pg) (hc : Hc) (k : Nat) (fad : Nat → Addr) (nE n : Nat) : Prop where
  s : ∀ Δ st t, dS P nE n Δ st = some t → ∀ X cl W xc, Good P hc k fad Δ X cl W xc → ∀ rmd, SS X cl W st (exS P hc xc rmd t)
  b : ∀ Δ st t, dB P nE n Δ st = some t → ∀ X cl W xc, Good P hc k fad Δ X cl W xc → ∀ rmd, SSs X cl W st (exB P hc xc rmd t)
  h : ∀ Δ hs t, dH P nE n Δ hs = some t → Δ.calm = true → ∀ X cl W xc, Good P hc k fad Δ X cl W xc → ∀ rmd, ∃ l, HdG X hs l ∧ HdR X.K cl W l (exH P hc rmd t)
theorem sub_asg {o b : Expr} (h : subOk b = true) : ∀ v, assign (.Subscript o b p) X.env v = (do
      let ov ← holding [v] (eval o X.env)
      let iv ← holding [v, ov] (eval b X.env)
      standAt p
      holding [v, ov, iv] (setItem ov iv v)
      release [v, ov, iv] []) := by
  intro v
  cases b <;> first | rfl | cases h
theorem dS_step {n : Nat} (A : AllOk P hc k fad nE n) : ∀ Δ st t, dS P nE (n + 1) Δ st = some t → ∀ X cl W xc, Good P hc k fad Δ X cl W xc → ∀ rmd, SS X cl W st (exS P hc xc rmd t) := by
  intro Δ st t h X cl W xc G rmd
  have R0 : RecAt P hc X cl W xc (dE P nE Δ) := fun e t he => dE_ok nE _ e t he _ _ _ _ G
  unfold dS at h
  split at h
  · cases h; exact ss_pass
  · cases h; exact ss_brk
  · cases h; exact ss_cnt
  · cases h; exact ss_doc
  · obtain ⟨h1, h⟩ := ite_some h
    obtain ⟨u, u1, h⟩ := opt_map h
    subst h
    exact ss_expr h1 ((R0 _ _ u1).v 0)
  · rename_i x p1 e ps
    obtain ⟨h1, h⟩ := ite_some h
    obtain ⟨h1, hsw⟩ := and2 h1
    obtain ⟨hlc, hst⟩ := and2 h1
    obtain ⟨i, i1, h⟩ := opt_bind h
    obtain ⟨u, u1, h⟩ := opt_map h
    subst h
    obtain ⟨i2, i3, i4⟩ := dTgN_ok G i1
    have se := sw_eq (p := p1) (x := x) (l := ps.line) G hlc
    cases hb : swB Δ x p1 e with
    | false =>
      rw [hb] at se
      exact ss_set G.nd i2 i3 i4 se ((R0 _ _ u1).v _)
    | true =>
      rw [hb] at se
      cases e with
      | ListComp elt gs scope q =>
        cases nE with
        | zero => cases u1
        | succ m =>
          have u2 : dComp Δ (dE P m) elt gs scope = some u := u1
          obtain ⟨_, z⟩ := dComp_ok (pos := q) G (dE_ok m) u2
          have hy : X.env.scope.names.lookup x = some .local := by
            unfold swB at hb
            obtain ⟨hb, _⟩ := and2 hb
            obtain ⟨hb, _⟩ := and2 hb
            rw [G.sc]
            exact of_decide_eq_true hb
          exact z i x p1 ps i2 hy se _
      | _ => cases hb
  · exact dAsgT_ok G R0 h rmd
  · obtain ⟨h1, h⟩ := ite_some h
    obtain ⟨hn, hs⟩ := and2 h1
    obtain ⟨u, u1, h⟩ := opt_bind h
    obtain ⟨v, v1, h⟩ := opt_bind h
    obtain ⟨w, w1, h⟩ := opt_map h
    subst h
    exact ss_put hn ((R0 _ _ w1).v 0) ((R0 _ _ u1).v 0) ((R0 _ _ v1).v 0) (sub_asg hs)
  · obtain ⟨hn, h⟩ := ite_some h
    obtain ⟨u, u1, h⟩ := opt_bind h
    obtain ⟨w, w1, h⟩ := opt_map h
    subst h
    exact ss_fld G.kit hn ((R0 _ _ w1).v 0) ((R0 _ _ u1).v 0)
  · obtain ⟨u, u1, h⟩ := opt_bind h
    obtain ⟨v, v1, h⟩ := opt_bind h
    obtain ⟨w, w1, h⟩ := opt_map h
    subst h
    exact ss_if (R0 _ _ u1).t (A.b _ _ _ v1 _ _ _ _ G rmd) (A.b _ _ _ w1 _ _ _ _ G rmd)
  · obtain ⟨h1, h⟩ := ite_some h
    obtain ⟨h1, hset⟩ := and2 h1
    obtain ⟨hcm, htop⟩ := and2 h1
    obtain ⟨ki, k1, h⟩ := opt_bind h
    obtain ⟨tgD, t1, h⟩ := opt_bind h
    obtain ⟨w, w1, h⟩ := opt_map h
    subst h
    obtain ⟨_, _, po⟩ := G.top htop
    exact ss_wipeM (ss_for po (by rw [G.calm]; exact hcm) hset (dIt_ok G R0 k1) (dTg_ok G t1) (sss_wipeA (A.b _ _ _ w1 _ _ _ _ G rmd)))
  · obtain ⟨htop, h⟩ := ite_some h
    obtain ⟨u, u1, h⟩ := opt_bind h
    obtain ⟨w, w1, h⟩ := opt_map h
    subst h
    obtain ⟨_, _, po⟩ := G.top htop
    exact ss_wipeM (ss_while po (R0 _ _ u1).t (sss_wipeA (A.b _ _ _ w1 _ _ _ _ G rmd)))
  · obtain ⟨u, u1, h⟩ := opt_map h
    subst h
    exact ss_ret ((R0 _ _ u1).v rmd)
  · cases h; exact ss_retN
  · exact dRse_ok G R0 h rmd
  · obtain ⟨h1, h⟩ := ite_some h
    obtain ⟨hcm, htop⟩ := and2 h1
    obtain ⟨u, u1, h⟩ := opt_bind h
    obtain ⟨v, v1, h⟩ := opt_map h
    subst h
    obtain ⟨g1, g2, po⟩ := G.top htop
    obtain ⟨l, l1, l2⟩ := A.h _ _ _ v1 hcm _ _ _ _ G rmd
    exact ss_try g1 g2 G.nd G.tk (fun W' pn xe tk po => A.b _ _ _ u1 _ _ _ _ (G.tr hcm tk po) rmd) l1 l2
  · cases h
theorem dB_step {n : Nat} (A : AllOk P hc k fad nE n) : ∀ Δ st t, dB P nE (n + 1) Δ st = some t → ∀ X cl W xc, Good P hc k fad Δ X cl W xc → ∀ rmd, SSs X cl W st (exB P hc xc rmd t) := by
  intro Δ st t h X cl W xc G rmd
  unfold dB at h
  split at h
  · cases h; exact sss_nil
  · obtain ⟨u, u1, h⟩ := opt_bind h
    obtain ⟨v, v1, h⟩ := opt_map h
    subst h
    exact sss_cons (A.s _ _ _ u1 _ _ _ _ G rmd) (A.b _ _ _ v1 _ _ _ _ G rmd)
theorem dH_step {n : Nat} (A : AllOk P hc k fad nE n) : ∀ Δ hs t, dH P nE (n + 1) Δ hs = some t → Δ.calm = true → ∀ X cl W xc, Good P hc k fad Δ X cl W xc → ∀ rmd, ∃ l, HdG X hs l ∧ HdR X.K cl W l (exH P hc rmd t) := by
  intro Δ hs t h hcm X cl W xc G rmd
  unfold dH at h
  split at h
  · cases h
    exact ⟨[], .nil, hdr_nil⟩
  · rename_i x np on b₀ suite pos' r
    obtain ⟨hg, h⟩ := ite_some h
    obtain ⟨g1, g2⟩ := isGl_ok G hg
    have g := G.gl x
    split at h
    · rename_i c qc
      rw [qc] at g
      obtain ⟨q, hq, h⟩ := opt_bind h
      obtain ⟨hx, h⟩ := ite_some h
      have nm : Names X x (.ref (cl c)) := ⟨g1, g2, .inl g⟩
      have F := (G.pf hcm).2.2
      cases on with
      | none =>
        obtain ⟨u, u1, h⟩ := opt_bind h
        obtain ⟨v, v1, h⟩ := opt_map h
        subst h
        obtain ⟨l, l1, l2⟩ := A.h _ _ _ v1 hcm _ _ _ _ G rmd
        refine ⟨(.ref (cl c), none, suTS X.K cl P c (fun ns xs => exB P hc (ns, xs) rmd u)) :: l, .cons nm trivial (fun a oe cls d pn hz hf => pss_su fun c' ns xs h1 h2 h3 => A.b _ _ _ u1 _ _ _ _ (G.su hcm hz hf h1 h2 h3) rmd) l1, hdr_cons (fun c' b e => F.exm c' c b q hq hx e) l2⟩
      | some nme =>
        obtain ⟨hl, h⟩ := ite_some h
        obtain ⟨i, i1, h⟩ := opt_bind h
        obtain ⟨u, u1, h⟩ := opt_bind h
        obtain ⟨v, v1, h⟩ := opt_map h
        subst h
        obtain ⟨l, l1, l2⟩ := A.h _ _ _ v1 hcm _ _ _ _ G rmd
        have hn : NmOk X (some nme) (some i) := ⟨by rw [G.N]; exact ixOf_get i1, by show X.env.scope.names.lookup nme = _; rw [G.sc]; exact of_decide_eq_true hl⟩
        refine ⟨(.ref (cl c), some i, suTS X.K cl P c (fun ns xs => exB P hc (ns, xs) rmd u)) :: l, .cons nm hn (fun a oe cls d pn hz hf => pss_su fun c' ns xs h1 h2 h3 => A.b _ _ _ u1 _ _ _ _ (G.su hcm hz hf h1 h2 h3) rmd) l1, hdr_cons (fun c' b e => F.exm c' c b q hq hx e) l2⟩
    · cases h
  · cases h
theorem all_ok : ∀ n, AllOk P hc k fad nE n
  | 0 => ⟨fun _ _ _ h => (by cases h), fun _ _ _ h => (by cases h), fun _ _ _ h => (by cases h)⟩
  | n + 1 => ⟨dS_step (all_ok n), dB_step (all_ok n), dH_step (all_ok n)⟩
end
end Gc

end

section
set_option Elab.async false
set_option linter.all false
set_option maxRecDepth 100000
set_option maxHeartbeats 2000000
/-! the table of defs -/
namespace Gc
open PySem PySem.Spec L2

structure Fe where
  np : Nat
  nl : Nat
  tb : TB
def runB (P : Pg) (hc : Hc) (e : Fe) (ds : List D) (md : Nat) (S : List (Option D)) : Rf :=
  if ds.length = e.np then (match exB P hc ([], []) md e.tb ⟨ds.map some ++ List.replicate (e.nl - ds.length) none, S⟩ with
    | .ok .nx s => .ok .non s.S
    | .ok (.rt d) s => .ok d s.S
    | .ok _ _ => .bad
    | .exn c ns xs s => .exn c ns xs s.S
    | .bad => .bad) else .bad
def hcN (P : Pg) (fs : List Fe) : Nat → Hc
  | 0 => fun _ _ _ _ => .bad
  | n + 1 => fun f ds md S => match fs[f]? with
    | some e => runB P (hcN P fs n) e ds md S
    | none => .bad

theorem slots_start {R : RC} {N : List Str} {vs : List V} {ds : List D} {nl : Nat} (h : RepL R vs ds) (hn : N.length = nl) : Slots R (L2.start N vs) (ds.map some ++ List.replicate (nl - ds.length) none) := by
  have hl := h.length
  refine ⟨by unfold L2.start; simp [hl, hn], fun i d e => ?_⟩
  by_cases hi : i < ds.length
  · rw [List.getElem?_append_left (by simpa using hi), List.getElem?_map] at e
    cases q : ds[i]? with
    | none => rw [q] at e; cases e
    | some d' =>
      rw [q] at e
      cases e
      obtain ⟨v, hv, rv⟩ := h.get q
      refine ⟨v, ?_, .inl rv⟩
      unfold L2.start
      rw [List.getElem?_append_left (by simpa [hl] using hi), List.getElem?_map, hv]
      rfl
  · rw [List.getElem?_append_right (by simpa using hi), List.getElem?_replicate] at e
    split at e <;> cases e
section
variable {prog : Program} {w : World} {K : PySem.W.Frag} {mg : Str → Option Value} {base : Heap} {cl : CL} {P : Pg} {hc hc' : Hc} {k f nE n : Nat} {fad : Nat → Addr} {Δ : Dx} {e : Fe} {fa : Addr} {x qual : Str} {params : Arguments} {body : List Stmt} {scope : Scope} {dvs : List V} {kws : List (Str × V)} {fd : FuncData} {ps : List Str}
theorem fn_run' (F : PF prog w K mg base cl P hc k fad) (kit : Kit K cl P) (pl : ∀ c q, P.cl c = some q → q.exc ≠ none → q.fields = []) (gl : ∀ x, GlOk P fad mg cl x (Δ.gl x)) (FD : FunD K x qual params body scope dvs kws fa fd) (S : FnScope Δ.N ps scope)
    (hsc : Δ.sc = scope) (hfn : Δ.fn = fun _ => true) (hcm : Δ.calm = true) (hxv : Δ.xv = none) (hb : Binds K fd ps []) (hnp : ps.length = e.np) (hnl : Δ.N.length = e.nl) (hd : dB P nE n Δ body = some e.tb) (hrun : ∀ ds md S, hc' f ds md S = runB P hc e ds md S) :
    FnOk prog w K mg base (CX prog w) (k + 2) fa fd ps (spF K cl hc' f ps.length) := by
  refine FunD.ok FD S (fun vs H Q E h => h.1) fun cdv A outer s H vs Q E hr h => ?_
  obtain ⟨hlen, R, ds, md, hH, hK, hcl, C, r, hm⟩ := h
  generalize hX : cxOf (CX prog w) prog w K mg base Δ.N qual scope fa cdv A outer s H E = X
  have G : Good P hc k fad Δ X cl (fun cls d _ H => E cls d H) ([], []) := by
    subst hX
    refine ⟨rfl, S.nd, hsc.symm, by rw [hsc]; exact S.kind, hfn.symm, hcm.symm, gl, kit, pl, ?_, takes_of rfl rfl rfl rfl, fun _ => ⟨rfl, rfl, passes_of rfl⟩, fun _ => ⟨hxv, hr, F⟩, fun n f i p pos z => by rw [hxv] at z; cases z⟩
    have := hr.un
    show (A.deeper (PyProof.Rows.envOfC qual scope s.heap.objs.size fa cdv)).units + 100 < cLine
    omega
  refine ⟨_, (all_ok n).b Δ body e.tb hd X cl _ _ G md, R, ds.map some ++ List.replicate (e.nl - ds.length) none, hH, ⟨by rw [hK, ← hX]; rfl, hcl, C, slots_start r hnl⟩, ?_⟩
  rw [hrun] at hm
  unfold runB at hm
  rw [if_pos (by rw [← r.length, hlen]; exact hnp)] at hm
  unfold rdSAt
  cases q : exB P hc ([], []) md e.tb ⟨ds.map some ++ List.replicate (e.nl - ds.length) none, R.S⟩ with
  | bad => rw [q] at hm; exact hm.elim
  | exn c ns xs s' => rw [q] at hm; exact fun R' σ' cls dd x1 e1 A1 r1 => hm R' cls dd x1 e1 A1.cells r1
  | ok fl s' =>
    rw [q] at hm
    dsimp only at hm ⊢
    intro R' σ' x1 e1 A1
    cases fl with
    | nx => exact hm .non R' x1 e1 A1.cells rep_non
    | rt d => exact fun v rv => hm v R' x1 e1 A1.cells rv
    | bk => exact hm.elim
    | ct => exact hm.elim
theorem fn_run (F : PF prog w K mg base cl P hc k fad) (kit : Kit K cl P) (pl : ∀ c q, P.cl c = some q → q.exc ≠ none → q.fields = []) (gl : ∀ x, GlOk P fad mg cl x (Δ.gl x)) (FD : FunD K x qual params body scope dvs kws fa fd) (S : FnScope Δ.N ps scope)
    (hsc : Δ.sc = scope) (hfn : Δ.fn = fun _ => true) (hcm : Δ.calm = true) (hxv : Δ.xv = none) (hb : Binds K fd ps []) (hnp : ps.length = e.np) (hnl : Δ.N.length = e.nl) (hd : dB P nE n Δ body = some e.tb) (hrun : ∀ ds md S, hc' f ds md S = runB P hc e ds md S) (hkb : KBinds K fd ps) :
    FnH prog w K mg base cl hc' (k + 2) f ps fa := ⟨fd, fn_run' F kit pl gl FD S hsc hfn hcm hxv hb hnp hnl hd hrun, FD.kp, hb, hkb⟩
end

/-! ### binding -/
theorem zip_lookup : ∀ {ns : List Str} {us : List Value} (n : Str), n ∈ ns → us.length = ns.length → ((ns.zip us).lookup n).isNone = false
  | [], _, n, h, _ => by cases h
  | m :: ns, u :: us, n, h, hl => by
    by_cases e : n = m
    · subst e
      simp [List.lookup]
    · have q : (n == m) = false := beq_eq_false_iff_ne.mpr e
      have : ((m, u) :: ns.zip us).lookup n = (ns.zip us).lookup n := by simp [List.lookup, q]
      show (((m, u) :: ns.zip us).lookup n).isNone = false
      rw [this]
      exact zip_lookup n ((List.mem_cons.mp h).resolve_left e) (by simpa using hl)
theorem zip_filterMap : ∀ {ns : List Str} {us : List Value}, ns.Nodup → us.length = ns.length → ns.filterMap (fun n => ((ns.zip us).lookup n).map fun v => (n, v)) = ns.zip us
  | [], us, _, _ => by simp
  | m :: ns, u :: us, hn, hl => by
    obtain ⟨h1, h2⟩ := List.nodup_cons.mp hn
    have ih := zip_filterMap h2 (show us.length = ns.length by simpa using hl)
    have e0 : (((m :: ns).zip (u :: us)).lookup m).map (fun v => (m, v)) = some (m, u) := by simp [List.lookup]
    rw [List.filterMap_cons, e0]
    show (m, u) :: List.filterMap (fun n => (((m, u) :: ns.zip us).lookup n).map fun v => (n, v)) ns = (m, u) :: ns.zip us
    congr 1
    have cg : ∀ (l : List Str), (∀ n ∈ l, n ∈ ns) → l.filterMap (fun n => (((m, u) :: ns.zip us).lookup n).map fun v => (n, v)) = l.filterMap fun n => ((ns.zip us).lookup n).map fun v => (n, v) := by
      intro l
      induction l with
      | nil => intro _; rfl
      | cons n l ih2 =>
        intro hs
        have q : (n == m) = false := beq_eq_false_iff_ne.mpr (fun z => h1 (z ▸ hs n List.mem_cons_self))
        have e1 : ((m, u) :: ns.zip us).lookup n = (ns.zip us).lookup n := by simp [List.lookup, q]
        rw [List.filterMap_cons, List.filterMap_cons, e1, ih2 fun k hk => hs k (List.mem_cons_of_mem _ hk)]
    exact (cg ns fun _ h => h).trans ih
theorem bind_plain {x qual : Str} {as : List Arg} {kd : List (Option Expr)} {dfl : List Expr} {body : List Stmt} {scope : Scope} {kV doc pm : Value} {an : Option Addr} {cdv ct : Value} {us : List Value} (hn : (as.map (·.arg)).Nodup) (hl : us.length = (as.map (·.arg)).length) :
    bindArgs (PySem.W.fnOf x qual ⟨[], as, none, [], kd, none, dfl⟩ body scope .none kV doc pm an cdv ct) ⟨us, []⟩ = pure ((as.map (·.arg)).zip us) := by
  have hm : ((as.map (·.arg)).take ((as.map (·.arg)).length - 0)).filter (fun n => (((as.map (·.arg)).zip us).lookup n).isNone) = [] := by
    rw [List.filter_eq_nil_iff]
    intro n hn'
    rw [zip_lookup n (List.mem_of_mem_take hn') hl]
    simp
  have hf := zip_filterMap hn hl
  have hg : ¬ us.length > (as.map (·.arg)).length := by omega
  have pb : ∀ {α β : Type} (a : α) (g : α → Sem β), ((pure a : Sem α) >>= g) = g a := fun _ _ => rfl
  have sq : seqItems? .none = (pure none : Sem (Option (Array Value))) := rfl
  unfold bindArgs
  simp only [PySem.W.fnOf, List.map_nil, List.nil_append, List.append_nil, List.forIn_nil, pb, sq, Option.getD_none, List.length_nil, Nat.sub_zero, List.drop_nil, List.zip_nil_right, hg, decide_false, Bool.false_and]
  rw [Nat.sub_zero] at hm
  rw [if_neg Bool.false_ne_true, hm]
  simp only [List.isEmpty_nil, Bool.not_true]
  rw [if_neg Bool.false_ne_true]
  show (pure _ : Sem _) = _
  rw [hf]
end Gc

end

section
set_option Elab.async false
set_option linter.all false
set_option maxRecDepth 100000
set_option maxHeartbeats 2000000
/-! binding by names -/
namespace Gc
open PySem PySem.Spec L2
theorem zip_take : ∀ (ns : List Str) (us : List Value), ns.zip us = (ns.take us.length).zip us
  | [], us => by simp
  | n :: ns, [] => by simp
  | n :: ns, u :: us => by simp [← zip_take ns us]
theorem zip_split (ns : List Str) (us ws : List Value) (h : us.length ≤ ns.length) : ns.zip (us ++ ws) = ns.zip us ++ (ns.drop us.length).zip ws := by
  induction us generalizing ns with
  | nil => simp
  | cons u us ih =>
    cases ns with
    | nil => simp at h
    | cons n ns => simp [ih ns (by simpa using h)]
theorem lookup_append_none {k : Str} : ∀ {l : List (Str × Value)}, k ∉ l.map (·.1) → l.lookup k = none
  | [], _ => rfl
  | (m, v) :: l, h => by
    simp only [List.map_cons, List.mem_cons, not_or] at h
    have q : (k == m) = false := beq_eq_false_iff_ne.mpr h.1
    simp [List.lookup, q, lookup_append_none h.2]
theorem bind_kw {x qual : Str} {as : List Arg} {kd : List (Option Expr)} {dfl : List Expr} {body : List Stmt} {scope : Scope} {kV doc pm : Value} {an : Option Addr} {cdv ct : Value} {us ws : List Value} (hn : (as.map (·.arg)).Nodup) (hl : us.length + ws.length = (as.map (·.arg)).length) :
    bindArgs (PySem.W.fnOf x qual ⟨[], as, none, [], kd, none, dfl⟩ body scope .none kV doc pm an cdv ct) ⟨us, ((as.map (·.arg)).drop us.length).zip ws⟩ = pure ((as.map (·.arg)).zip (us ++ ws)) := by
  have hl2 : (us ++ ws).length = (as.map (·.arg)).length := by rw [List.length_append]; exact hl
  generalize hns : as.map (·.arg) = ns at hn hl hl2 ⊢
  have hm : ((ns.take (ns.length - 0)).filter (fun n => ((ns.zip (us ++ ws)).lookup n).isNone)) = [] := by
    rw [List.filter_eq_nil_iff]
    intro n hn'
    rw [zip_lookup n (List.mem_of_mem_take hn') hl2]
    simp
  have hf := zip_filterMap hn hl2
  have hg : ¬ us.length > ns.length := by omega
  have pb : ∀ {α β : Type} (a : α) (g : α → Sem β), ((pure a : Sem α) >>= g) = g a := fun _ _ => rfl
  have sq : seqItems? .none = (pure none : Sem (Option (Array Value))) := rfl
  have loop : ∀ (f : Str × Value → List (Str × Value) × List (Str × Value) → Sem (ForInStep (List (Str × Value) × List (Str × Value)))),
      (∀ k v sl ex, k ∈ ns → sl.lookup k = none → f (k, v) (sl, ex) = pure (.yield (sl ++ [(k, v)], ex))) →
      ∀ (l : List (Str × Value)) (sl ex : List (Str × Value)), (∀ y ∈ l, y.1 ∈ ns) → (sl.map (·.1) ++ l.map (·.1)).Nodup → forIn l (sl, ex) f = pure (sl ++ l, ex) := by
    intro f hf l
    induction l with
    | nil => intro sl ex _ _; rw [List.forIn_nil, List.append_nil]
    | cons y l ih =>
      intro sl ex h1 h2
      obtain ⟨k, v⟩ := y
      have nk : k ∉ sl.map (·.1) := fun z => by
        have := List.nodup_append.mp h2
        exact this.2.2 k z k (by simp) rfl
      rw [List.forIn_cons, hf k v sl ex (h1 (k, v) List.mem_cons_self) (lookup_append_none nk)]
      show forIn l (sl ++ [(k, v)], ex) f = _
      rw [ih (sl ++ [(k, v)]) ex (fun y hy => h1 y (List.mem_cons_of_mem _ hy)) (by simpa using h2)]
      simp
  have hz : ns.zip us ++ (ns.drop us.length).zip ws = ns.zip (us ++ ws) := (zip_split ns us ws (by omega)).symm
  have kn : ((ns.zip us).map (·.1) ++ ((ns.drop us.length).zip ws).map (·.1)) = ns := by
    rw [← List.map_append, hz, List.map_fst_zip (by omega)]
  unfold bindArgs
  simp only [PySem.W.fnOf, List.map_nil, List.nil_append, List.append_nil, hns]
  rw [loop _ (fun k v sl ex hk hs => by
    have c : (ns.contains k || ([] : List Str).contains k) = true := by simp [hk]
    dsimp only
    rw [if_pos c, hs]
    rfl) _ _ _ (fun y hy => List.mem_of_mem_drop (List.of_mem_zip hy).1) (by rw [kn]; exact hn), hz]
  simp only [pb, sq, Option.getD_none, List.length_nil, Nat.sub_zero, List.drop_nil, List.zip_nil_right, List.forIn_nil, hg, decide_false, Bool.false_and]
  rw [Nat.sub_zero] at hm
  rw [if_neg Bool.false_ne_true, hm]
  simp only [List.isEmpty_nil, Bool.not_true]
  rw [if_neg Bool.false_ne_true]
  show (pure _ : Sem _) = _
  rw [hf]
end Gc

end

section
set_option Elab.async false
set_option linter.all false
set_option maxRecDepth 100000
set_option maxHeartbeats 2000000
/-! what the head tells, as one test of the written part -/
namespace Gc
open PySem PySem.Spec L2 He

/-! ### classes -/
def oexB (K : PySem.W.Frag) (C : Addr) : Bool := match K.lookup C with
  | some ⟨.type t, _, .cls cd, sl⟩ => t == "type" && (match cd.mro, sl.toList with
    | .ref C' :: bm, [_, _, _, _, some (.builtin n), _] => C' == C && n == "ValueError.__new__" && !cd.hasDel && cd.hasDict && PySem.HandSPX.refsVE bm
    | _, _ => false) && decide (PySem.W.findIn K (.ref C) "__setattr__" = some (some (.builtin "object.__setattr__"))) && decide (PySem.W.subIn K (.ref C) (.type "BaseException") = some true) && decide (PySem.W.typeIn K (.ref C) = some (.type "type")) && PySem.W.keepIn K (.ref C)
  | _ => false
theorem oexB_ok {K : PySem.W.Frag} {C : Addr} (h : oexB K C = true) : OexC K C := by
  unfold oexB at h
  split at h
  · rename_i t dd cd sl ho
    obtain ⟨h, h6⟩ := and2 h
    obtain ⟨h, h5⟩ := and2 h
    obtain ⟨h, h4⟩ := and2 h
    obtain ⟨h, h3⟩ := and2 h
    obtain ⟨h1, h2⟩ := and2 h
    have et : t = "type" := eq_of_beq h1
    subst et
    split at h2
    · rename_i C' bm k0 k1 k2 k3 n k5 hm hs
      simp only [Bool.and_eq_true, beq_iff_eq, Bool.not_eq_true'] at h2
      obtain ⟨⟨⟨⟨e1, e2⟩, hdel⟩, hdict⟩, hve⟩ := h2
      subst e1 e2
      obtain ⟨nm, bs, mro, ns, qn, hd, sn, sub, ab, col, del⟩ := cd
      dsimp only at hm hdel hdict
      subst hm hdel hdict
      have hsl : sl = #[k0, k1, k2, k3, some (.builtin "ValueError.__new__"), k5] := by
        obtain ⟨l⟩ := sl
        simp only at hs
        rw [hs]
      subst hsl
      exact ⟨⟨nm, qn, ns, bs, bm, sn, sub, ab, col, dd, k0, k1, k2, k3, k5, ho, hve⟩, of_decide_eq_true h3, of_decide_eq_true h4, of_decide_eq_true h5, h6⟩
    · cases h2
  · cases h
def giB (K : PySem.W.Frag) (G : Addr) : Bool := decide (PySem.W.specialIn K (.ref G) "__getattribute__" = some (some (.builtin "type.__getattribute__"))) && PySem.W.readsIn K G (.type "type") &&
  (match PySem.W.findCls K (.ref G) (.type "type") "__init__" with | some (.val v) => decide (v = .builtin "ValueError.__init__") | _ => false)
theorem giB_ok {K : PySem.W.Frag} {G : Addr} (h : giB K G = true) : GI K G := by
  unfold giB at h
  obtain ⟨h, h3⟩ := and2 h
  obtain ⟨h1, h2⟩ := and2 h
  refine ⟨of_decide_eq_true h1, h2, ?_⟩
  split at h3
  · rename_i v q
    rw [q, of_decide_eq_true h3]
  · cases h3
/-- representatives of the kinds -/
def kinds (P : Pg) : List D := [.non, .bl true, .int 0, .str Str.empty, .lst [], .tup [], .dK [] [], .dT [] []] ++ ((List.range P.cls.length).filter (plainCl P)).map fun c => .obj c [] []
def tys (P : Pg) : List Ty := [.int, .bool, .str, .list, .tuple, .dict] ++ ((List.range P.cls.length).filter (plainCl P)).map .cls
def kitB (K : PySem.W.Frag) (cl : CL) (P : Pg) : Bool := (kinds P).all fun d => (tys P).all fun t => decide (PySem.W.kitOne K (tyD cl d) (tyT cl t) = some (isTy P d t))
theorem plain_lt {P : Pg} {c : Nat} (h : plainCl P c = true) : c ∈ (List.range P.cls.length).filter (plainCl P) := by
  refine List.mem_filter.mpr ⟨List.mem_range.mpr ?_, h⟩
  unfold plainCl Pg.cl at h
  cases q : P.cls[c]? with
  | none => rw [q] at h; cases h
  | some z => exact (List.getElem?_eq_some_iff.mp q).1
theorem kitB_ok {K : PySem.W.Frag} {cl : CL} {P : Pg} (h : kitB K cl P = true) : ∀ d t, okD P d = true → okTy P t = true → PySem.W.kitOne K (tyD cl d) (tyT cl t) = some (isTy P d t) := by
  intro d t hd ht
  have mt : t ∈ tys P := by
    unfold tys
    cases t with
    | cls c => exact List.mem_append_right _ (List.mem_map.mpr ⟨c, plain_lt ht, rfl⟩)
    | _ => exact List.mem_append_left _ (by simp)
  have at_ : ∀ d', d' ∈ kinds P → PySem.W.kitOne K (tyD cl d') (tyT cl t) = some (isTy P d' t) := fun d' hd' => of_decide_eq_true (List.all_eq_true.mp (List.all_eq_true.mp h d' hd') t mt)
  have base : ∀ d', d' ∈ [D.non, .bl true, .int 0, .str Str.empty, .lst [], .tup [], .dK [] [], .dT [] []] → d' ∈ kinds P := fun d' h => List.mem_append_left _ h
  cases d with
  | non => exact at_ .non (base _ (by simp))
  | bl b => exact (at_ (.bl true) (base _ (by simp))).trans (by cases t <;> rfl)
  | int b => exact (at_ (.int 0) (base _ (by simp))).trans (by cases t <;> rfl)
  | str b => exact (at_ (.str Str.empty) (base _ (by simp))).trans (by cases t <;> rfl)
  | lst b => exact (at_ (.lst []) (base _ (by simp))).trans (by cases t <;> rfl)
  | scr b => cases hd
  | tup b => exact (at_ (.tup []) (base _ (by simp))).trans (by cases t <;> rfl)
  | dK b c => exact (at_ (.dK [] []) (base _ (by simp))).trans (by cases t <;> rfl)
  | dT b c => exact (at_ (.dT [] []) (base _ (by simp))).trans (by cases t <;> rfl)
  | obj c ns xs => exact (at_ (.obj c [] []) (List.mem_append_right _ (List.mem_map.mpr ⟨c, plain_lt hd, rfl⟩))).trans (by cases t <;> rfl)
  | ref n => cases hd
  | fn f => cases hd
  | exc => cases hd
theorem kinds_rep {P : Pg} {cl : CL} {p : Value → Prop} (at_ : ∀ d', d' ∈ kinds P → p (tyD cl d')) : ∀ d, okD P d = true → p (tyD cl d) := by
  intro d hd
  have base : ∀ d', d' ∈ [D.non, .bl true, .int 0, .str Str.empty, .lst [], .tup [], .dK [] [], .dT [] []] → d' ∈ kinds P := fun d' h => List.mem_append_left _ h
  cases d with
  | non => exact at_ .non (base _ (by simp))
  | bl b => exact at_ (.bl true) (base _ (by simp))
  | int b => exact at_ (.int 0) (base _ (by simp))
  | str b => exact at_ (.str Str.empty) (base _ (by simp))
  | lst b => exact at_ (.lst []) (base _ (by simp))
  | scr b => cases hd
  | tup b => exact at_ (.tup []) (base _ (by simp))
  | dK b c => exact at_ (.dK [] []) (base _ (by simp))
  | dT b c => exact at_ (.dT [] []) (base _ (by simp))
  | obj c ns xs => exact at_ (.obj c [] []) (List.mem_append_right _ (List.mem_map.mpr ⟨c, plain_lt hd, rfl⟩))
  | ref n => cases hd
  | fn f => cases hd
  | exc => cases hd
/-! ### the law's data -/
/-- fns: the defs, by number; cln: the classes' names; xin: the errors' __init__s; gls: what the module's names stand for -/
structure LD where
  fns : List DefD
  Ns : List (List Str)
  pol : List ((Pos → Bool) × (Pos → Nat) × (Pos → List Nat))
  cln : List Str
  P : Pg
  xin : List (Nat × DefD)
  gls : List (Str × Gk)
  root : Str
def LD.cl (L : LD) (K : PySem.W.Frag) : CL := ⟨fun c => ga K (L.cln.getD c Str.empty), none, none, fun f => match L.fns[f]? with | some d => fAd K d.at_ | none => 0⟩
def LD.fad (L : LD) (K : PySem.W.Frag) (f : Nat) : Addr := match L.fns[f]? with | some d => fAd K d.at_ | none => 0
def LD.gl (L : LD) (x : Str) : Gk := (L.gls.lookup x).getD .oth
/-- the classes that are made -/
def clsB (K : PySem.W.Frag) (L : LD) (c : Nat) : Bool := match L.P.cl c, L.cln[c]? with
  | some q, some x => (match q.exc with
    | none => (Fa.cls x).ok K && (q.fields.all fun f => (Fa.noat x f).ok K) && (q.meths.all fun m => (Fa.meth x m.1).ok K && decide ((L.fns[m.2]?).map (·.at_) = some (x, some m.1))) && (Fa.mkr x).ok K && decide ((L.fns[q.init]?).map (·.at_) = some (x, some ("__init__" : Str))) &&
        decide (PySem.W.findIn K (.ref (ga K x)) "__class__" = some (some (.builtin "object.__class__"))) && decide (PySem.W.mroIn K (ga K x) (.type "object") = some true)
    | some ns => xfB K (ga K x) && (L.P.xfs.all fun f => decide (PySem.W.findIn K (.ref (ga K x)) f = some none)) &&
        ((List.range L.P.cls.length).all fun h => (match L.P.cl h, isUp L.P c h with
          | some r, some b => !r.exc.isSome || decide (PySem.W.exmOne K (.ref (ga K x)) (.ref (ga K (L.cln.getD h Str.empty))) = some b)
          | _, _ => true)) && (match ns with
        | [f] => oexB K (ga K x) && (L.xin.any fun z => z.1 == c && decide (z.2.at_ = (x, some ("__init__" : Str)))) && decide (PySem.W.findIn K (.ref (ga K x)) "__init__" = some (some (.ref (ma K (ga K x) "__init__")))) && decide (PySem.W.typeIn K (.ref (ma K (ga K x) "__init__")) = some (.type "function"))
        | _ => true))
  | _, _ => false
def objB (K : PySem.W.Frag) : Bool := decide (PySem.W.specialIn K (.builtin "object.__class__") "__get__" = some (some (.builtin "getset_descriptor.__get__"))) && decide (PySem.W.takesIn K (.builtin "object.__class__") = some true)
def glsB (K : PySem.W.Frag) (L : LD) : Bool := L.gls.all fun z => (match z.2 with
  | .fn f => (Fa.glo z.1).ok K && decide ((L.fns[f]?).map (·.at_) = some (z.1, none)) && (L.P.fns[f]?).isSome
  | .cls c => (Fa.glo z.1).ok K && decide (L.cln[c]? = some z.1)
  | .blt => (Fa.free z.1).ok K
  | .oth => true)
def nfB (K : PySem.W.Frag) (cl : CL) (P : Pg) : Bool := (kinds P).all fun d => ((List.range P.cls.length).filter (plainCl P)).all fun c => PySem.W.notFirst K (cl c) (tyD cl d)
def LD.obs (L : LD) (K : PySem.W.Frag) : Bool := nfB K (L.cl K) L.P && glsB K L && ((List.range L.P.cls.length).all fun c => clsB K L c) && objB K && kitB K (L.cl K) L.P && giB K (ga K L.root) && (Fa.glo L.root).ok K
def LD.all (L : LD) : List DefD := L.fns ++ L.xin.map (·.2)
end Gc

end

section
set_option Elab.async false
set_option linter.all false
set_option maxRecDepth 100000
set_option maxHeartbeats 2000000
/-! from what the head tells to what the defs promise -/
namespace Gc
open PySem PySem.Spec L2 He

def LD.dx (L : LD) (f : Nat) (d : DefD) : Dx := { N := L.Ns.getD f [], sc := d.scope, fn := fun _ => true, calm := true, top := true, xv := none, gl := L.gl, fz := (L.pol.getD f (fun _ => false, fun _ => 0, fun _ => [])).1, md := (L.pol.getD f (fun _ => false, fun _ => 0, fun _ => [])).2.1, wp := (L.pol.getD f (fun _ => false, fun _ => 0, fun _ => [])).2.2 }
/-- plain parameters -/
def plainP (a : Arguments) : Bool := a.posonlyargs.isEmpty && a.vararg.isNone && a.kwonlyargs.isEmpty && a.kwarg.isNone
def parN (a : Arguments) : List Str := a.args.map (·.arg)
def scB (N ps : List Str) (sc : Scope) : Bool := decide (sc.kind = .function) && !sc.isCoroutine && !sc.isGenerator && decide N.Nodup && decide (N.take ps.length = ps) && (ps.all fun x => decide (sc.names.lookup x = some .local) || decide (sc.names.lookup x = some .cell)) && (sc.names.all fun y => !decide (y.2 = .free))
theorem scB_ok {N ps : List Str} {sc : Scope} (h : scB N ps sc = true) : FnScope N ps sc := by
  unfold scB at h
  obtain ⟨h, h7⟩ := and2 h
  obtain ⟨h, h6⟩ := and2 h
  obtain ⟨h, h5⟩ := and2 h
  obtain ⟨h, h4⟩ := and2 h
  obtain ⟨h, h3⟩ := and2 h
  obtain ⟨h1, h2⟩ := and2 h
  refine ⟨of_decide_eq_true h1, not_true h2, not_true h3, of_decide_eq_true h4, of_decide_eq_true h5, fun x hx => ?_, fun y hy z => ?_⟩
  · rcases Bool.or_eq_true_iff.mp (List.all_eq_true.mp h6 x hx) with q | q
    · exact .inl (of_decide_eq_true q)
    · exact .inr (of_decide_eq_true q)
  · have q := List.all_eq_true.mp h7 y hy
    rw [z] at q
    cases q
def fnB (L : LD) (f : Nat) (d : DefD) (e : Fe) : Bool := d.dfl.isEmpty && plainP d.params && decide (parN d.params).Nodup && scB (L.Ns.getD f []) (parN d.params) d.scope && decide ((parN d.params).length = e.np) && decide ((L.Ns.getD f []).length = e.nl) && decide ((L.P.fns[f]?).map (·.ps) = some (parN d.params))
/-- the whole table -/
def tabB (L : LD) (es : List Fe) : Bool := decide (L.fns.length = es.length) && decide (L.P.fns.length = es.length) && ((List.range es.length).all fun f => (match L.fns[f]?, es[f]? with | some d, some e => fnB L f d e | _, _ => false)) && (L.P.cls.all fun q => !q.exc.isSome || (q.fields.isEmpty && q.meths.isEmpty))
/-- the errors' __init__s -/
def x1of (b : List Stmt) : Option (Str × Str × Str × Str × Str × Nat × (Nat → Pos)) := match b with
  | [.Expr (.Call (.Attribute (.Name g p0) i p1) [.Name s p2, .Constant (.str t) j p3] [] p4) p5, .Assign [.Attribute (.Name s' p6) f p7] (.Name v p8) p9] =>
    if i = "__init__" && decide (s' = s) then some (g, s, f, v, t, j, fun n => [p0, p1, p2, p3, p4, p5, p6, p7, p8, p9].getD n p0) else none
  | _ => none
theorem x1of_ok {b : List Stmt} {g s f v t : Str} {j : Nat} {p : Nat → Pos} (h : x1of b = some (g, s, f, v, t, j, p)) : b = xBody1 g s f v t j p := by
  unfold x1of at h
  split at h
  · split at h
    · rename_i hi
      obtain ⟨h1, h2⟩ := and2 hi
      have e1 := of_decide_eq_true h1
      have e2 := of_decide_eq_true h2
      subst e1 e2
      simp only [Option.some.injEq, Prod.mk.injEq] at h
      obtain ⟨rfl, rfl, rfl, rfl, rfl, rfl, rfl⟩ := h
      rfl
    · cases h
  · cases h
def xinB (L : LD) (c : Nat) (d : DefD) : Bool := match L.P.cl c, x1of d.body with
  | some q, some (g, s, f, v, t, j, p) => decide (q.exc = some [f]) && decide (g = L.root) && decide (L.cln[c]? = some d.at_.1) && decide (d.at_.2 = some ("__init__" : Str)) && d.dfl.isEmpty && plainP d.params && decide (parN d.params = [s, v]) && decide ([s, v] : List Str).Nodup && scB [s, v] [s, v] d.scope &&
      decide (d.scope.names.lookup s = some .local) && decide (d.scope.names.lookup v = some .local) && decide (d.scope.names.lookup g = some .globalImplicit) && ((p 1).endLine == (p 4).line) && okNm s && okNm v && okNm g && L.P.xfs.contains f
  | _, _ => false

section
variable {prog : Program} {w : World} {K : PySem.W.Frag} {h base : Heap} {mg : Str → Option Value} {L : LD} {es : List Fe}
theorem plainP_eq {a : Arguments} (h : plainP a = true) : a = ⟨[], a.args, none, [], a.kw_defaults, none, a.defaults⟩ := by
  unfold plainP at h
  obtain ⟨h, h4⟩ := and2 h
  obtain ⟨h, h3⟩ := and2 h
  obtain ⟨h1, h2⟩ := and2 h
  obtain ⟨a1, a2, a3, a4, a5, a6, a7⟩ := a
  simp only [List.isEmpty_iff, Option.isNone_iff_eq_none] at h1 h2 h3 h4
  subst h1 h2 h3 h4
  rfl
theorem binds_plain {d : DefD} {fd : FuncData} {kws : List (Str × V)} {fa : Addr} (F : FunD K d.name d.qual d.params d.body d.scope [] kws fa fd) (hp : plainP d.params = true) (hn : (parN d.params).Nodup) : Binds K fd (parN d.params) [] := by
  refine FunD.bindsN F fun kV doc pm an cdv ct us hl => ?_
  rw [plainP_eq hp]
  exact bind_plain hn hl
theorem kbinds_plain {d : DefD} {fd : FuncData} {kws : List (Str × V)} {fa : Addr} (F : FunD K d.name d.qual d.params d.body d.scope [] kws fa fd) (hp : plainP d.params = true) (hn : (parN d.params).Nodup) : KBinds K fd (parN d.params) := by
  intro s us ws _ hl
  obtain ⟨oc, od, dV, kV, doc, pm, an, cdv, ct, osl, rfl, lk, hcd, hD, hK⟩ := F.ex
  rcases hD with ⟨_, rfl⟩ | ⟨e, _⟩
  · rw [plainP_eq hp]
    exact .of_eq (bind_kw hn hl)
  · exact absurd rfl e
theorem gls_ok (X : K.In h) (G : h.Ns mainGlobals mg) (o : glsB K L = true) (x : Str) : GlOk L.P (L.fad K) mg (L.cl K) x (L.gl x) := by
  unfold LD.gl
  cases q : L.gls.lookup x with
  | none => trivial
  | some g =>
    have hm : (x, g) ∈ L.gls := PySem.mem_of_lookup q
    have z := List.all_eq_true.mp o (x, g) hm
    dsimp only at z
    show GlOk L.P (L.fad K) mg (L.cl K) x g
    cases g with
    | oth => trivial
    | blt => exact free_ok X G z
    | cls c =>
      obtain ⟨z1, z2⟩ := and2 z
      have e := of_decide_eq_true z2
      show mg x = some (.ref (ga K (L.cln.getD c Str.empty)))
      rw [List.getD_eq_getElem?_getD, e]
      exact glo_ok X G z1
    | fn f =>
      obtain ⟨z1, z3⟩ := and2 z
      obtain ⟨z1, z2⟩ := and2 z1
      have e := of_decide_eq_true z2
      refine ⟨?_, Option.isSome_iff_exists.mp z3⟩
      cases qf : L.fns[f]? with
      | none => rw [qf] at e; cases e
      | some d =>
        rw [qf] at e
        have ea : d.at_ = (x, none) := Option.some.inj e
        show mg x = some (.ref (L.fad K f))
        unfold LD.fad
        rw [qf]
        dsimp only
        rw [ea]
        exact glo_ok X G z1
theorem cls_plain {c : Nat} {q : Cl} (o : clsB K L c = true) (hq : L.P.cl c = some q) (hx : q.exc = none) : ∃ x, L.cln[c]? = some x ∧ (L.cl K) c = ga K x ∧ Cls K (ga K x) ∧ (∀ f ∈ q.fields, NoAttr K (ga K x) f) ∧
    (∀ m ∈ q.meths, Meth K (ga K x) m.1 (ma K (ga K x) m.1) ∧ (L.fns[m.2]?).map (·.at_) = some (x, some m.1)) ∧ Mk K (ga K x) (ma K (ga K x) "__init__") ∧ (L.fns[q.init]?).map (·.at_) = some (x, some ("__init__" : Str)) ∧
    PySem.W.findIn K (.ref (ga K x)) "__class__" = some (some (.builtin "object.__class__")) ∧ PySem.W.mroIn K (ga K x) (.type "object") = some true := by
  unfold clsB at o
  rw [hq] at o
  cases qx : L.cln[c]? with
  | none => rw [qx] at o; cases o
  | some x =>
    rw [qx] at o
    dsimp only at o
    rw [hx] at o
    dsimp only at o
    obtain ⟨o, o7⟩ := and2 o
    obtain ⟨o, o6⟩ := and2 o
    obtain ⟨o, o5⟩ := and2 o
    obtain ⟨o, o4⟩ := and2 o
    obtain ⟨o, o3⟩ := and2 o
    obtain ⟨o1, o2⟩ := and2 o
    refine ⟨x, rfl, ?_, cls_ok o1, fun f hf => noat_ok (List.all_eq_true.mp o2 f hf), fun m hm => ?_, mkr_ok o4, of_decide_eq_true o5, of_decide_eq_true o6, of_decide_eq_true o7⟩
    · show ga K (L.cln.getD c Str.empty) = _
      rw [List.getD_eq_getElem?_getD, qx]
      rfl
    · obtain ⟨z1, z2⟩ := and2 (List.all_eq_true.mp o3 m hm)
      exact ⟨meth_ok z1, of_decide_eq_true z2⟩
theorem cls_exc {c : Nat} {q : Cl} {ns : List Str} (o : clsB K L c = true) (hq : L.P.cl c = some q) (hx : q.exc = some ns) : ∃ x, L.cln[c]? = some x ∧ (L.cl K) c = ga K x ∧ XfC K (ga K x) ∧ (∀ f ∈ L.P.xfs, PySem.W.findIn K (.ref (ga K x)) f = some none) ∧
    (∀ h b r, L.P.cl h = some r → r.exc.isSome = true → isUp L.P c h = some b → PySem.W.exmOne K (.ref (ga K x)) (.ref ((L.cl K) h)) = some b) ∧
    (∀ f, ns = [f] → OexC K (ga K x) ∧ (∃ z ∈ L.xin, z.1 = c ∧ z.2.at_ = (x, some ("__init__" : Str))) ∧ PySem.W.findIn K (.ref (ga K x)) "__init__" = some (some (.ref (ma K (ga K x) "__init__"))) ∧ PySem.W.typeIn K (.ref (ma K (ga K x) "__init__")) = some (.type "function")) := by
  unfold clsB at o
  rw [hq] at o
  cases qx : L.cln[c]? with
  | none => rw [qx] at o; cases o
  | some x =>
    rw [qx] at o
    dsimp only at o
    rw [hx] at o
    dsimp only at o
    obtain ⟨o, o4⟩ := and2 o
    obtain ⟨o, o3⟩ := and2 o
    obtain ⟨o1, o2⟩ := and2 o
    refine ⟨x, rfl, ?_, xfB_ok o1, fun f hf => of_decide_eq_true (List.all_eq_true.mp o2 f hf), fun h b r hr hx2 hu => ?_, fun f hf => ?_⟩
    · show ga K (L.cln.getD c Str.empty) = _
      rw [List.getD_eq_getElem?_getD, qx]
      rfl
    · have hl : h < L.P.cls.length := (List.getElem?_eq_some_iff.mp hr).1
      have z := List.all_eq_true.mp o3 h (List.mem_range.mpr hl)
      rw [hr, hu] at z
      dsimp only at z
      rw [hx2] at z
      exact of_decide_eq_true z
    · subst hf
      obtain ⟨o4, p4⟩ := and2 o4
      obtain ⟨o4, p3⟩ := and2 o4
      obtain ⟨p1, p2⟩ := and2 o4
      obtain ⟨z, hz, e⟩ := List.any_eq_true.mp p2
      obtain ⟨e1, e2⟩ := and2 e
      exact ⟨oexB_ok p1, ⟨z, hz, eq_of_beq e1, of_decide_eq_true e2⟩, of_decide_eq_true p3, of_decide_eq_true p4⟩
/-- the tests, taken apart -/
structure LOk (L : LD) (K : PySem.W.Frag) : Prop where
  nf : nfB K (L.cl K) L.P = true
  gl : glsB K L = true
  cls : ∀ c q, L.P.cl c = some q → clsB K L c = true
  obj : objB K = true
  kit : kitB K (L.cl K) L.P = true
  gi : GI K (ga K L.root)
  ro : (Fa.glo L.root).ok K = true
theorem LOk.of (o : L.obs K = true) : LOk L K := by
  unfold LD.obs at o
  obtain ⟨o, o6⟩ := and2 o
  obtain ⟨o, o5⟩ := and2 o
  obtain ⟨o, o4⟩ := and2 o
  obtain ⟨o, o3⟩ := and2 o
  obtain ⟨o, o2⟩ := and2 o
  obtain ⟨o0, o1⟩ := and2 o
  exact ⟨o0, o1, fun c q hq => List.all_eq_true.mp o2 c (List.mem_range.mpr (List.getElem?_eq_some_iff.mp hq).1), o3, o4, giB_ok o5, o6⟩
theorem plain_cl {P : Pg} {c : Nat} (h : plainCl P c = true) : ∃ q, P.cl c = some q ∧ q.exc = none := by
  unfold plainCl at h
  cases q : P.cl c with
  | none => rw [q] at h; cases h
  | some r =>
    rw [q] at h
    refine ⟨r, rfl, ?_⟩
    dsimp only at h
    cases z : r.exc with
    | none => rfl
    | some _ => rw [z] at h; cases h
theorem kit_ok (o : LOk L K) : Kit K (L.cl K) L.P := by
  refine ⟨fun c hc => ?_, fun c q f hq hx hf => ?_, fun c hc => ?_, kitB_ok o.kit, fun c d hc hd => kinds_rep (p := fun v => PySem.W.notFirst K (L.cl K c) v = true) (fun d' hd' => List.all_eq_true.mp (List.all_eq_true.mp o.nf d' hd') c (plain_lt hc)) d hd⟩
  · obtain ⟨q, hq, hx⟩ := plain_cl hc
    obtain ⟨x, _, e, h1, _⟩ := cls_plain (o.cls c q hq) hq hx
    rw [e]; exact h1
  · obtain ⟨x, _, e, _, h1, _⟩ := cls_plain (o.cls c q hq) hq hx
    rw [e]; exact h1 f hf
  · obtain ⟨q, hq, hx⟩ := plain_cl hc
    obtain ⟨x, _, e, _, _, _, _, _, h1, h2⟩ := cls_plain (o.cls c q hq) hq hx
    obtain ⟨o1, o2⟩ := and2 o.obj
    rw [e]
    exact ⟨h1, of_decide_eq_true o1, of_decide_eq_true o2, h2⟩
end
end Gc

end

section
set_option Elab.async false
set_option linter.all false
set_option maxRecDepth 100000
set_option maxHeartbeats 2000000
/-! all defs keep their promises; a law's end -/
namespace Gc
open PySem PySem.Spec L2 He
section
variable {prog : Program} {w : World} {K : PySem.W.Frag} {h base : Heap} {mg : Str → Option Value} {L : LD} {es : List Fe} {nE n : Nat}
/-- what is known of the data -/
structure LSt (L : LD) (es : List Fe) (nE n : Nat) : Prop where
  tab : tabB L es = true
  xin : (L.xin.all fun z => xinB L z.1 z.2) = true
  dec : ∀ f d e, L.fns[f]? = some d → es[f]? = some e → dB L.P nE n (L.dx f d) d.body = some e.tb
theorem tab_at (S : LSt L es nE n) {f : Nat} {q : Fn} (hq : L.P.fns[f]? = some q) : ∃ d e, L.fns[f]? = some d ∧ es[f]? = some e ∧ fnB L f d e = true ∧ q.ps = parN d.params := by
  have t := S.tab
  unfold tabB at t
  obtain ⟨t, _⟩ := and2 t
  obtain ⟨t, t3⟩ := and2 t
  obtain ⟨t1, t2⟩ := and2 t
  have l2 := of_decide_eq_true t2
  have hf : f < es.length := by rw [← l2]; exact (List.getElem?_eq_some_iff.mp hq).1
  have z := List.all_eq_true.mp t3 f (List.mem_range.mpr hf)
  split at z
  · rename_i d e h1 h2
    refine ⟨d, e, h1, h2, z, ?_⟩
    unfold fnB at z
    obtain ⟨_, z7⟩ := and2 z
    have z7 := of_decide_eq_true z7
    rw [hq] at z7
    exact Option.some.inj z7
  · cases z
theorem all_left {f : Nat} {d : DefD} (h : L.fns[f]? = some d) : L.all[f]? = some d := by
  unfold LD.all
  rw [List.getElem?_append_left (List.getElem?_eq_some_iff.mp h).1]
  exact h
/-- a def of the table -/
structure DefAt (K : PySem.W.Frag) (L : LD) (f : Nat) (d : DefD) (e : Fe) (fd : FuncData) : Prop where
  F : FunD K d.name d.qual d.params d.body d.scope [] (d.kws K) (fAd K d.at_) fd
  pp : plainP d.params = true
  nd : (parN d.params).Nodup
  sc : FnScope (L.Ns.getD f []) (parN d.params) d.scope
  np : (parN d.params).length = e.np
  nl : (L.Ns.getD f []).length = e.nl
theorem def_at (c : SaysD [] L.all K) {f : Nat} {d : DefD} {e : Fe} (hd : L.fns[f]? = some d) (hb : fnB L f d e = true) : ∃ fd, DefAt K L f d e fd := by
  unfold fnB at hb
  obtain ⟨hb, _⟩ := and2 hb
  obtain ⟨hb, h6⟩ := and2 hb
  obtain ⟨hb, h5⟩ := and2 hb
  obtain ⟨hb, h4⟩ := and2 hb
  obtain ⟨hb, h3⟩ := and2 hb
  obtain ⟨h1, h2⟩ := and2 hb
  obtain ⟨fd, F⟩ := c.def_ f (all_left hd)
  have e0 : d.dvs K = [] := by
    unfold DefD.dvs
    rw [List.isEmpty_iff.mp h1]
    rfl
  rw [e0] at F
  exact ⟨fd, F, h2, of_decide_eq_true h3, scB_ok h4, of_decide_eq_true h5, of_decide_eq_true h6⟩
theorem fns_ok (X : K.In h) (G : h.Ns mainGlobals mg) (c : SaysD [] L.all K) (o : LOk L K) (S : LSt L es nE n) (pl : ∀ c q, L.P.cl c = some q → q.exc ≠ none → q.fields = []) {m : Nat} (F : PF prog w K mg base (L.cl K) L.P (hcN L.P es m) (2 * m + 1) (L.fad K)) :
    ∀ f q, L.P.fns[f]? = some q → FnH prog w K mg base (L.cl K) (hcN L.P es (m + 1)) (2 * (m + 1) + 1) f q.ps (L.fad K f) := by
  intro f q hq
  obtain ⟨d, e, hd, he, hb, hnp⟩ := tab_at S hq
  obtain ⟨fd, A⟩ := def_at c hd hb
  have efa : L.fad K f = fAd K d.at_ := by unfold LD.fad; rw [hd]
  rw [hnp, efa]
  exact fn_run (Δ := L.dx f d) (nE := nE) (n := n) F (kit_ok o) pl (fun x => gls_ok X G o.gl x) A.F A.sc rfl rfl rfl rfl (binds_plain A.F A.pp A.nd) A.np A.nl (S.dec f d e hd he) (fun ds md S => by
    show (match es[f]? with | some e => runB L.P (hcN L.P es m) e ds md S | none => .bad) = _
    rw [he]) (kbinds_plain A.F A.pp A.nd)
theorem fns_zero (c : SaysD [] L.all K) (S : LSt L es nE n) : ∀ f q, L.P.fns[f]? = some q → FnH prog w K mg base (L.cl K) (hcN L.P es 0) 1 f q.ps (L.fad K f) := by
  intro f q hq
  obtain ⟨d, e, hd, he, hb, hnp⟩ := tab_at S hq
  obtain ⟨fd, A⟩ := def_at c hd hb
  have efa : L.fad K f = fAd K d.at_ := by unfold LD.fad; rw [hd]
  rw [hnp, efa]
  refine ⟨fd, FunD.ok A.F A.sc (fun vs H Q E h => h.1) (fun cdv Ar outer s H vs Q E hr h => ?_), A.F.kp, binds_plain A.F A.pp A.nd, kbinds_plain A.F A.pp A.nd⟩
  obtain ⟨_, R, ds, md, _, _, _, _, _, z⟩ := h
  exact z.elim
theorem pl_ok (S : LSt L es nE n) : ∀ c q, L.P.cl c = some q → q.exc ≠ none → q.fields = [] ∧ q.meths = [] := by
  intro c q hq hx
  have t := S.tab
  unfold tabB at t
  obtain ⟨_, t4⟩ := and2 t
  have z := List.all_eq_true.mp t4 q (List.mem_of_getElem? hq)
  cases e : q.exc with
  | none => exact absurd e hx
  | some ns =>
    rw [e] at z
    obtain ⟨z1, z2⟩ := and2 (show (q.fields.isEmpty && q.meths.isEmpty) = true from z)
    exact ⟨List.isEmpty_iff.mp z1, List.isEmpty_iff.mp z2⟩
theorem xcs_ok (X : K.In h) (G : h.Ns mainGlobals mg) (c : SaysD [] L.all K) (o : LOk L K) (S : LSt L es nE n) {k : Nat} : ∀ c q f, L.P.cl c = some q → q.exc = some [f] → XcH prog w K mg base (L.cl K) (k + 1) c f := by
  intro cc q f hq hx
  obtain ⟨x, hxn, ecl, _, hno, _, h5⟩ := cls_exc (o.cls cc q hq) hq hx
  obtain ⟨T, ⟨z, hz, z1, z2⟩, iC, tI⟩ := h5 f rfl
  have xb := List.all_eq_true.mp S.xin z hz
  obtain ⟨i, hi⟩ := List.getElem?_of_mem hz
  have hall : L.all[L.fns.length + i]? = some z.2 := by
    unfold LD.all
    rw [List.getElem?_append_right (Nat.le_add_right _ _), Nat.add_sub_cancel_left, List.getElem?_map, hi]
    rfl
  obtain ⟨fd, F⟩ := c.def_ _ hall
  unfold xinB at xb
  rw [z1, hq] at xb
  split at xb
  · rename_i q' g s f' v t j p hq' hb
    cases hq'
    obtain ⟨xb, x17⟩ := and2 xb
    obtain ⟨xb, x16⟩ := and2 xb
    obtain ⟨xb, x15⟩ := and2 xb
    obtain ⟨xb, x14⟩ := and2 xb
    obtain ⟨xb, x13⟩ := and2 xb
    obtain ⟨xb, x12⟩ := and2 xb
    obtain ⟨xb, x11⟩ := and2 xb
    obtain ⟨xb, x10⟩ := and2 xb
    obtain ⟨xb, x9⟩ := and2 xb
    obtain ⟨xb, x8⟩ := and2 xb
    obtain ⟨xb, x7⟩ := and2 xb
    obtain ⟨xb, x6⟩ := and2 xb
    obtain ⟨xb, x5⟩ := and2 xb
    obtain ⟨xb, x4⟩ := and2 xb
    obtain ⟨xb, x3⟩ := and2 xb
    obtain ⟨x1, x2⟩ := and2 xb
    have ef : f' = f := by
      have := of_decide_eq_true x1
      rw [hx] at this
      exact (List.cons.inj (Option.some.inj this)).1.symm
    subst ef
    have eg := of_decide_eq_true x2
    subst eg
    have e0 : z.2.dvs K = [] := by
      unfold DefD.dvs
      rw [List.isEmpty_iff.mp x5]
      rfl
    rw [e0] at F
    have ep := of_decide_eq_true x7
    have hbn : Binds K fd [s, v] [] := by
      have := binds_plain F x6 (by rw [ep]; exact of_decide_eq_true x8)
      rw [ep] at this
      exact this
    have eb := x1of_ok hb
    have efa : fAd K z.2.at_ = ma K (ga K x) "__init__" := by rw [z2]; rfl
    obtain ⟨oc, od, dV, kV, doc, pm, an, cdv, ct, osl, hfd, lk, hcd, _, _⟩ := F.ex
    rw [efa] at lk
    subst hfd
    have hf : f' ∈ L.P.xfs := by simpa using x17
    obtain ⟨d1, d2⟩ := okNm_ok x14
    obtain ⟨d3, d4⟩ := okNm_ok x15
    obtain ⟨d5, _⟩ := okNm_ok x16
    rw [eb] at lk hbn
    refine ⟨ma K (ga K x) "__init__", _, [s, v], by rw [ecl]; exact T, by rw [ecl]; exact iC, tI, ?_, hbn⟩
    rw [ecl]
    exact fn_x1 lk hcd (scB_ok x9) (of_decide_eq_true x10) (of_decide_eq_true x11) (of_decide_eq_true x12) T (hno f' hf) o.gi (glo_ok X G o.ro) x13 d1 d2 d3 d4 d5
  · cases xb
theorem pf_all (X : K.In h) (G : h.Ns mainGlobals mg) (c : SaysD [] L.all K) (o : LOk L K) (S : LSt L es nE n) : ∀ m, PF prog w K mg base (L.cl K) L.P (hcN L.P es m) (2 * m + 1) (L.fad K) := by
  have pl := fun c q h1 h2 => (pl_ok S c q h1 h2).1
  have rest : ∀ m, (∀ f q, L.P.fns[f]? = some q → FnH prog w K mg base (L.cl K) (hcN L.P es m) (2 * m + 1) f q.ps (L.fad K f)) → PF prog w K mg base (L.cl K) L.P (hcN L.P es m) (2 * m + 1) (L.fad K) := fun m hf => by
    have fn_of_at : ∀ {f : Nat} {x y : Str}, (L.fns[f]?).map (·.at_) = some (x, some y) → ∃ q, L.P.fns[f]? = some q ∧ L.fad K f = ma K (ga K x) y := fun {f x y} e => by
      cases qf : L.fns[f]? with
      | none => rw [qf] at e; cases e
      | some d =>
        rw [qf] at e
        have ea : d.at_ = (x, some y) := Option.some.inj e
        have t := S.tab
        unfold tabB at t
        obtain ⟨t, _⟩ := and2 t
        obtain ⟨t, _⟩ := and2 t
        obtain ⟨t1, t2⟩ := and2 t
        have l1 := of_decide_eq_true t1
        have l2 := of_decide_eq_true t2
        have hlt : f < L.P.fns.length := by rw [l2, ← l1]; exact (List.getElem?_eq_some_iff.mp qf).1
        refine ⟨_, List.getElem?_eq_getElem hlt, ?_⟩
        unfold LD.fad
        rw [qf]
        dsimp only
        rw [ea]
        rfl
    refine ⟨hf, fun f => rfl, fun mm cc q f hq hl => ?_, fun cc hp => ?_, fun cc q f hq hx => xcs_ok X G c o S cc q f hq hx, fun cc hh b q hq hx hu => ?_, fun cc q hq hx => ?_⟩
    · have hx : q.exc = none := by
        cases e : q.exc with
        | none => rfl
        | some _ =>
          have := (pl_ok S cc q hq (by rw [e]; simp)).2
          rw [this] at hl
          cases hl
      obtain ⟨x, hxn, ecl, h1, h2, h3, _⟩ := cls_plain (o.cls cc q hq) hq hx
      obtain ⟨m1, m2⟩ := h3 (mm, f) (PySem.mem_of_lookup hl)
      obtain ⟨fn, hfn, efa⟩ := fn_of_at m2
      refine ⟨by unfold plainCl; rw [hq]; show q.exc.isNone = true; rw [hx]; rfl, fn, L.fad K f, hfn, hf f fn hfn, ?_⟩
      rw [ecl, efa]
      exact m1
    · obtain ⟨q, hq, hx⟩ := plain_cl hp
      obtain ⟨x, hxn, ecl, _, _, _, h4, h5, _⟩ := cls_plain (o.cls cc q hq) hq hx
      obtain ⟨fn, hfn, efa⟩ := fn_of_at h5
      refine ⟨q, fn, L.fad K q.init, hq, hfn, hf _ fn hfn, ?_⟩
      rw [ecl, efa]
      exact h4
    · obtain ⟨q2, hq2, hx2⟩ := isUp_some hu
      obtain ⟨ns, hns⟩ := Option.isSome_iff_exists.mp hx2
      obtain ⟨x, hxn, ecl, _, _, h4, _⟩ := cls_exc (o.cls cc q2 hq2) hq2 hns
      rw [ecl]
      exact h4 hh b q hq hx hu
    · obtain ⟨ns, hns⟩ := Option.isSome_iff_exists.mp hx
      obtain ⟨x, hxn, ecl, h2, h3, _⟩ := cls_exc (o.cls cc q hq) hq hns
      rw [ecl]
      exact ⟨h2, h3⟩
  intro m
  induction m with
  | zero => exact rest 0 (fns_zero c S)
  | succ m ih => exact rest (m + 1) (fns_ok X G c o S pl ih)
end
end Gc

end

section
set_option Elab.async false
set_option linter.all false
set_option maxRecDepth 100000
set_option maxHeartbeats 2000000
/-! a law's end -/
namespace Gc
open PySem PySem.Spec L2 He
/-- the Hook: the defs, and all else in one test -/
def asL (g : Addr → Option Obj) (n : Nat) : List Addr := PySem.cStatics :: asD g n
def hookL (n : Nat) (L : LD) : PySem.W.Hook where
  α := AlD × Bool
  obs := fun s => (obsD [] L.all (frG s.heap.get? (asL s.heap.get? n)), L.obs (frG s.heap.get? (asL s.heap.get? n)))
  val := fun _ => (valD L.all, true)
  says := fun _ h => ∃ K : PySem.W.Frag, K.In h ∧ SaysD [] L.all K ∧ L.obs K = true
  of := fun _ _ e => ⟨_, frG_in, (Prod.mk.inj e).1, (Prod.mk.inj e).2⟩
  keeps := fun _ _ _ ⟨K, hK, c⟩ k => ⟨K, PySem.W.Frag.In.keeps hK k, c⟩
def obL (n : Nat) (L : LD) (g : Addr → Option Obj) : AlD × Bool := (obsD [] L.all (frG g (asL g n)), L.obs (frG g (asL g n)))
theorem obL_eq {n : Nat} {L : LD} {g : Addr → Option Obj} {s : Shared} (h : ∀ a, g a = s.heap.get? a) : obL n L g = (hookL n L).obs s := by
  have e : g = s.heap.get? := funext h
  rw [e] <;> rfl
theorem cells_nil {K : PySem.W.Frag} {cl : CL} {H : Hp} (hz : cl.Z = none) : Cells ⟨K, cl, fun _ => 0, [], [], H⟩ :=
  ⟨fun n d e => by simp at e, fun m n d e h => by simp at h, fun n d e => by simp at e, fun a ha => by simp at ha, fun d ns xs e => by
    have e : cl.Z = some (d, ns, xs) := e
    rw [hz] at e; cases e⟩
/-- the law's promise, from its run -/
theorem law_facts {prog : Program} {w : World} {h : Heap} {mg : Str → Option Value} {L : LD} {es : List Fe} {nE n m f nn : Nat} {fa : Addr} {d : DefD} {x lw : Str} {K : PySem.W.Frag} (KX : K.In h) (G : h.Ns mainGlobals mg) (c : SaysD [] L.all K) (o : L.obs K = true) (S : LSt L es nE n)
    (hf : L.fns[f]? = some d) (hat : d.at_ = (lw, none)) (hp : parN d.params = [x]) (hg : L.gls.lookup lw = some (.fn f)) (hmg : mg lw = some (.ref fa))
    (run : ∀ ns : List Int, ns.length ≤ nn → ∃ S', hcN L.P es m f [.scr ns] 0 [] = .ok (.bl true) S') :
    ∃ (K : PySem.W.Frag) (fd : FuncData) (sp : Sp), K.In h ∧ (∀ (s : Shared) (u : Value), BindsTo s fd ⟨[u], []⟩ [(x, u)]) ∧
      (∀ (H : Hp) (a : Addr) (ns : List Int), ns.length ≤ nn → Only H → SqL K H a (ns.map V.int) → sp [.ref a] H (fun v _ => v = .bl true) fun _ _ _ => False) ∧
      ∀ base : Heap, K.In base → base.Ns mainGlobals mg → FnOk prog w K mg base (CX prog w) (2 * m + 1) fa fd [x] sp := by
  have lo := LOk.of o
  have gl := gls_ok (L := L) KX G lo.gl lw
  unfold LD.gl at gl
  rw [hg] at gl
  obtain ⟨g1, q, hq⟩ := (show GlOk L.P (L.fad K) mg (L.cl K) lw (.fn f) from gl)
  have efa : fa = L.fad K f := by
    rw [hmg] at g1
    exact Value.ref.inj (Option.some.inj g1)
  obtain ⟨d', e, hd, he, hb, hnp⟩ := tab_at S hq
  rw [hf] at hd
  cases hd
  obtain ⟨fd, A⟩ := def_at c hf hb
  have efd : L.fad K f = fAd K d.at_ := by unfold LD.fad; rw [hf]
  have np1 : e.np = 1 := by rw [← A.np, hp]; rfl
  refine ⟨K, fd, spF K (L.cl K) (hcN L.P es m) f 1, KX, fun s u => ?_, fun H a ns hl hO hS => ?_, fun base KB GB => ?_⟩
  · have b := FunD.bindsA (ps := parN d.params) A.F (fun kV doc pm an cdv ct us hl => by rw [plainP_eq A.pp]; exact bind_plain A.nd hl) s [u] (by rw [hp]; rfl)
    rw [hp] at b
    exact b
  · obtain ⟨S', hr⟩ := run ns hl
    refine ⟨rfl, ⟨K, L.cl K, fun _ => 0, [], [], H⟩, [.scr ns], 0, rfl, rfl, rfl, cells_nil rfl, RepL.cons ?_ RepL.nil, ?_⟩
    · unfold Rep
      refine ⟨a, rfl, ?_⟩
      rcases hS with (hS | ⟨o', hS⟩) | hS
      · rcases hO a with z | ⟨o', xs, z⟩
        · rw [z] at hS; cases hS
        · rw [z] at hS; cases hS
      · exact .inl ⟨o', hS, fun z => by
          obtain ⟨n', d', h1, _⟩ := z
          simp at h1, fun z => by simp at z⟩
      · exact .inr hS
    · show (match hcN L.P es m f [.scr ns] 0 [] with | .ok d S => _ | .exn c ns xs S => _ | .bad => _)
      rw [hr]
      exact fun v R' _ _ _ rv => de_bl rv
  · have FA : FnOk prog w K mg base (CX prog w) (2 * m + 1) fa fd [x] (spF K (L.cl K) (hcN L.P es m) f 1) := by
      cases m with
      | zero =>
        obtain ⟨S', hr⟩ := run [] (Nat.zero_le _)
        cases hr
      | succ m =>
        rw [efa, efd]
        have PFm := pf_all (prog := prog) (w := w) (base := base) KX G c lo S m
        have pl := fun c q h1 h2 => (pl_ok S c q h1 h2).1
        have hbn := binds_plain A.F A.pp A.nd
        have z := fn_run' (Δ := L.dx f d) (nE := nE) (n := n) (hc' := hcN L.P es (m + 1)) (f := f) PFm (kit_ok lo) pl (fun x => gls_ok KX G lo.gl x) A.F A.sc rfl rfl rfl rfl hbn A.np A.nl (S.dec f d e hf he) fun ds md S => by
          show (match es[f]? with | some e => runB L.P (hcN L.P es m) e ds md S | none => .bad) = _
          rw [he]
        rw [hp] at z
        exact z
    exact FA
end Gc

end

section
set_option Elab.async false
set_option linter.all false
set_option maxRecDepth 100000
set_option maxHeartbeats 1000000
/-! runs of the interpreter, rule by rule -/
namespace Gc
open PySem L2
theorem bind_k {α β : Type} {m : M α} {f : α → M β} {s s1 : MS} {a : α} {r : Rs β} (h : m s = .ok a s1) (h2 : f a s1 = r) : M.bind m f s = r := by
  unfold M.bind; rw [h]; exact h2
theorem bind_x {α β : Type} {m : M α} {f : α → M β} {s s1 : MS} {c : Nat} {ns : List Str} {xs : List D} (h : m s = .exn c ns xs s1) : M.bind m f s = .exn c ns xs s1 := by
  unfold M.bind; rw [h]
theorem opS_k {α : Type} {f : List (Option D) → Unit → Option α} {s : MS} {a : α} (h : f s.S () = some a) : opS f () s = .ok a s := by
  unfold opS; rw [h]
/-- a value that is read as it is -/
def rdV : D → Bool
  | .exc => false
  | _ => true
section
variable {P : Pg} {hc : Hc} {xc : List Str × List D} {a b c e o : TX} {es us its ifs : List TX} {md rmd i : Nat} {τ τ1 : List (Option D)} {S S1 S2 : List (Option D)} {s s1 s2 s3 s4 : MS} {x y z d r : D} {ds xs src : List D} {k k1 k2 : Bool} {op op' : CmpOp} {f : Nat}
theorem e_var (h : τ[i]? = some (some d)) (hd : rdV d = true) : ev P hc xc md (.var i false) ⟨τ, S⟩ = .ok d ⟨τ, S⟩ := by
  show readV i false ⟨τ, S⟩ = _
  unfold readV
  rw [h]
  cases d <;> first | rfl | cases hd
/-- a cell is read and laid down -/
theorem e_frz {n : Nat} (h : τ[i]? = some (some (.ref n))) (h2 : S[n]? = some (some d)) : ev P hc xc md (.var i true) ⟨τ, S⟩ = .ok d ⟨τ.set i (some d), S.set n none⟩ := by
  show readV i true ⟨τ, S⟩ = _
  unfold readV
  rw [h]
  show (match S[n]? with | some (some e) => _ | _ => _) = _
  rw [h2]
theorem e_con {c : Cn} : ev P hc xc md (.con c) s = .ok c.d s := rfl
theorem e_bin {bo : Operator} {v : Ov} {q : Rs D} (ha : ev P hc xc 0 a s = .ok x s1) (hb : ev P hc xc 0 b s1 = .ok y s2) (ho : binD s2.S bo x y = some v) (hf : fin md v s2 = q) : ev P hc xc md (.bin bo a b) s = q :=
  bind_k ha (bind_k hb (bind_k (opS_k ho) hf))
theorem e_neg {i : Int} (ha : ev P hc xc 0 a s = .ok (.int i) s1) : ev P hc xc md (.neg a) s = .ok (.int (-i)) s1 := bind_k ha rfl
theorem own_none {S : List (Option D)} {op : CmpOp} {x y : D} {k : Bool} (h : cmpD S op x y = some k) : ownEq P S op x y = none := by
  cases op <;> first | rfl | skip
  unfold ownEq
  dsimp only
  split
  · unfold methD
    split
    · rename_i c ns xs hd
      have e : cmpD S .Eq x y = none := by
        show eqT S x y = none
        have e1 : eqPy S x y = none := by
          unfold eqPy
          rw [hd]
          simp only [Option.bind_some]
          cases de S y with
          | none => rfl
          | some e => rfl
        unfold eqT
        rw [e1]
        dsimp only
        unfold eqSq
        rw [hd]
      rw [e] at h
      cases h
    · rfl
  · rfl
theorem cmpM_k {op : CmpOp} {x y : D} {k : Bool} {s : MS} (h : cmpD s.S op x y = some k) : cmpM P hc op x y s = .ok (.bl k) s := by
  unfold cmpM
  rw [own_none h]
  exact bind_k (opS_k h) rfl
theorem e_cmp (ha : ev P hc xc 0 a s = .ok x s1) (hb : ev P hc xc 0 b s1 = .ok y s2) (ho : cmpD s2.S op x y = some k) : ev P hc xc md (.cmp op a b) s = .ok (.bl k) s2 :=
  bind_k ha (bind_k hb (cmpM_k ho))
theorem e_cmpP (ha : ev P hc xc 0 a s = .ok x s1) (hb : ev P hc xc 0 b s1 = .ok y s2) (ho : cmpD s2.S op x y = some k) : ev P hc xc md (.cmpP op a b) s = .ok (.bl k) s2 :=
  bind_k ha (bind_k hb (bind_k (opS_k ho) rfl))
theorem e_chnT (ha : ev P hc xc 0 a s = .ok x s1) (hb : ev P hc xc 0 b s1 = .ok y s2) (ho : cmpD s2.S op x y = some k) (hk : k = true) (hc' : ev P hc xc 0 c s2 = .ok z s3) (ho' : cmpD s3.S op' y z = some k2) : ev P hc xc md (.chn op op' a b c) s = .ok (.bl k2) s3 := by
  subst hk; exact bind_k ha (bind_k hb (bind_k (opS_k ho) (bind_k hc' (bind_k (opS_k ho') rfl))))
theorem e_chnF (ha : ev P hc xc 0 a s = .ok x s1) (hb : ev P hc xc 0 b s1 = .ok y s2) (ho : cmpD s2.S op x y = some k) (hk : k = false) : ev P hc xc md (.chn op op' a b c) s = .ok (.bl false) s2 := by
  subst hk; exact bind_k ha (bind_k hb (bind_k (opS_k ho) rfl))
/-- a chain whose last part keeps the state -/
theorem e_chn (ha : ev P hc xc 0 a s = .ok x s1) (hb : ev P hc xc 0 b s1 = .ok y s2) (ho : cmpD s2.S op x y = some k) (hc' : ev P hc xc 0 c s2 = .ok z s2) (ho' : cmpD s2.S op' y z = some k2) : ev P hc xc md (.chn op op' a b c) s = .ok (.bl (k && k2)) s2 := by
  cases k
  · exact e_chnF ha hb ho rfl
  · exact e_chnT ha hb ho rfl hc' ho'
theorem e_andT {q : Rs D} (ha : ev P hc xc 0 a s = .ok (.bl k) s1) (hk : k = true) (hb : ev P hc xc md b s1 = q) : ev P hc xc md (.and a b) s = q := by subst hk; exact bind_k ha hb
theorem e_andF (ha : ev P hc xc 0 a s = .ok (.bl k) s1) (hk : k = false) : ev P hc xc md (.and a b) s = .ok (.bl false) s1 := by subst hk; exact bind_k ha rfl
theorem e_and (ha : ev P hc xc 0 a s = .ok (.bl k) s1) (hb : ev P hc xc md b s1 = .ok (.bl k2) s1) : ev P hc xc md (.and a b) s = .ok (.bl (k && k2)) s1 := by
  cases k
  · exact e_andF ha rfl
  · exact e_andT ha rfl hb
theorem e_orT (ha : ev P hc xc 0 a s = .ok (.bl k) s1) (hk : k = true) : ev P hc xc md (.or a b) s = .ok (.bl true) s1 := by subst hk; exact bind_k ha rfl
theorem e_orF {q : Rs D} (ha : ev P hc xc 0 a s = .ok (.bl k) s1) (hk : k = false) (hb : ev P hc xc md b s1 = q) : ev P hc xc md (.or a b) s = q := by subst hk; exact bind_k ha hb
theorem e_or (ha : ev P hc xc 0 a s = .ok (.bl k) s1) (hb : ev P hc xc md b s1 = .ok (.bl k2) s1) : ev P hc xc md (.or a b) s = .ok (.bl (k || k2)) s1 := by
  cases k
  · exact e_orF ha rfl hb
  · exact e_orT ha rfl
theorem e_not (ha : ev P hc xc 0 a s = .ok (.bl k) s1) : ev P hc xc md (.not a) s = .ok (.bl (!k)) s1 := bind_k ha rfl
theorem e_ifeT {q : Rs D} (hc' : evT P hc xc c s = .ok k s1) (hk : k = true) (ha : ev P hc xc md a s1 = q) : ev P hc xc md (.ife c a b) s = q := by subst hk; exact bind_k hc' ha
theorem e_ifeF {q : Rs D} (hc' : evT P hc xc c s = .ok k s1) (hk : k = false) (hb : ev P hc xc md b s1 = q) : ev P hc xc md (.ife c a b) s = q := by subst hk; exact bind_k hc' hb
theorem e_ife (hc' : evT P hc xc c s = .ok k s1) (ha : ev P hc xc md a s1 = .ok x s1) (hb : ev P hc xc md b s1 = .ok y s1) : ev P hc xc md (.ife c a b) s = .ok (if k then x else y) s1 := by
  cases k
  · exact e_ifeF hc' rfl hb
  · exact e_ifeT hc' rfl ha
theorem e_lst {q : Rs D} (h : evL P hc xc es (md - 1) s = .ok xs s1) (hl : xs.length ≤ sizeLine) (hn : new md (.lst xs) s1 = q) : ev P hc xc md (.lst es) s = q := bind_k h (by rw [if_pos hl]; exact hn)
theorem e_tup (h : evL P hc xc es 0 s = .ok xs s1) (hl : xs.length ≤ sizeLine) : ev P hc xc md (.tup es) s = .ok (.tup xs) s1 := bind_k h (by rw [if_pos hl])
theorem e_dic {dm : Nat} {ks : List Key} {q : Rs D} (h : evL P hc xc es (md + dm - 1) s = .ok xs s1) (hl : xs.length = ks.length ∧ ks.Nodup ∧ ks.length ≤ 15) (hn : new (md + dm) (.dK ks xs) s1 = q) : ev P hc xc md (.dic dm ks es) s = q := bind_k h (by rw [if_pos hl]; exact hn)
theorem callP_k {q : Fn} (hq : P.fns[f]? = some q) (hl : ds.length = q.np) (h : hc f ds md S = .ok d S1) : callP P hc f ds md ⟨τ, S⟩ = .ok d ⟨τ, S1⟩ := by
  unfold callP; rw [hq]; dsimp only; rw [if_pos hl]; unfold callM; dsimp only; rw [h]
theorem callP_x {q : Fn} {c : Nat} {ns : List Str} (hq : P.fns[f]? = some q) (hl : ds.length = q.np) (h : hc f ds md S = .exn c ns xs S1) : callP P hc f ds md ⟨τ, S⟩ = .exn c ns xs ⟨τ, S1⟩ := by
  unfold callP; rw [hq]; dsimp only; rw [if_pos hl]; unfold callM; dsimp only; rw [h]
theorem e_call {q : Fn} (h : evL P hc xc es 0 s = .ok ds ⟨τ, S⟩) (hq : P.fns[f]? = some q) (hl : ds.length = q.np) (h2 : hc f ds md S = .ok d S1) : ev P hc xc md (.call f es) s = .ok d ⟨τ, S1⟩ := bind_k h (callP_k hq hl h2)
theorem e_callX {q : Fn} {c : Nat} {ns : List Str} (h : evL P hc xc es 0 s = .ok ds ⟨τ, S⟩) (hq : P.fns[f]? = some q) (hl : ds.length = q.np) (h2 : hc f ds md S = .exn c ns xs S1) : ev P hc xc md (.call f es) s = .exn c ns xs ⟨τ, S1⟩ := bind_k h (callP_x hq hl h2)
theorem e_callK {q : Fn} {n : Nat} (h : evL P hc xc es 0 s = .ok ds s1) (h' : evL P hc xc us 0 s1 = .ok xs ⟨τ, S⟩) (hn : ds.length = n) (hq : P.fns[f]? = some q) (hl : (ds ++ xs).length = q.np) (h2 : hc f (ds ++ xs) md S = .ok d S1) : ev P hc xc md (.callK f n es us) s = .ok d ⟨τ, S1⟩ :=
  bind_k h (bind_k h' (by rw [if_pos hn]; exact callP_k hq hl h2))
theorem e_meth {q : Fn} {m : Str} (ho : ev P hc xc 0 o s = .ok x s1) (hm : methD P s1.S x m = some f) (h : evL P hc xc es 0 s1 = .ok ds ⟨τ, S⟩) (hq : P.fns[f]? = some q) (hl : (x :: ds).length = q.np) (h2 : hc f (x :: ds) md S = .ok d S1) : ev P hc xc md (.meth o m es) s = .ok d ⟨τ, S1⟩ :=
  bind_k ho (bind_k (opS_k hm) (bind_k h (callP_k hq hl h2)))
theorem e_methX {q : Fn} {m : Str} {c : Nat} {ns : List Str} (ho : ev P hc xc 0 o s = .ok x s1) (hm : methD P s1.S x m = some f) (h : evL P hc xc es 0 s1 = .ok ds ⟨τ, S⟩) (hq : P.fns[f]? = some q) (hl : (x :: ds).length = q.np) (h2 : hc f (x :: ds) md S = .exn c ns xs S1) : ev P hc xc md (.meth o m es) s = .exn c ns xs ⟨τ, S1⟩ :=
  bind_k ho (bind_k (opS_k hm) (bind_k h (callP_x hq hl h2)))
theorem e_methK {q : Fn} {m : Str} {ks : List Str} (ho : ev P hc xc 0 o s = .ok x s1) (hm : methD P s1.S x m = some f) (h : evL P hc xc es 0 s1 = .ok ds s2) (h' : evL P hc xc us 0 s2 = .ok xs ⟨τ, S⟩) (hq : P.fns[f]? = some q) (hk : q.ps.drop (ds.length + 1) = ks) (hl : (x :: (ds ++ xs)).length = q.np)
    (h2 : hc f (x :: (ds ++ xs)) md S = .ok d S1) : ev P hc xc md (.methK o m es ks us) s = .ok d ⟨τ, S1⟩ :=
  bind_k ho (bind_k (opS_k hm) (bind_k h (bind_k h' (by rw [if_pos (by rw [hq]; show some (q.ps.drop (ds.length + 1)) = some ks; rw [hk])]; exact callP_k hq hl h2))))
theorem e_attr {m : Str} (ho : ev P hc xc 0 o s = .ok x s1) (h : attrD P s1.S x m = some d) : ev P hc xc md (.attr o m) s = .ok d s1 := bind_k ho (opS_k h)
theorem e_sub (ho : ev P hc xc 0 o s = .ok x s1) (hi : ev P hc xc 0 e s1 = .ok y s2) (h : subD s2.S x y = some d) : ev P hc xc md (.sub o e) s = .ok d s2 := bind_k ho (bind_k hi (opS_k h))
theorem e_sl {lo hi : Bool} {p : Option Int × Option Int} {v : Ov} {q : Rs D} (ho : ev P hc xc 0 o s = .ok x s1) (h : evL P hc xc es 0 s1 = .ok ds s2) (hp : optI ds lo hi = some p) (hs : slD s2.S x p.1 p.2 = some v) (hf : fin md v s2 = q) : ev P hc xc md (.sl o lo hi es) s = q :=
  bind_k ho (bind_k h (bind_k (s1 := s2) (a := p) (by unfold liftO; rw [hp]) (bind_k (opS_k hs) hf)))
theorem e_blt {b : Bl} {v : Ov} {q : Rs D} (h : evL P hc xc es 0 s = .ok ds s1) (ho : bltD s1.S b ds = some v) (hf : fin md v s1 = q) : ev P hc xc md (.blt b es) s = q := bind_k h (bind_k (opS_k ho) hf)
theorem e_isi {ts : List Ty} (h : ev P hc xc 0 a s = .ok x s1) (ho : isiD P s1.S x ts = some k) : ev P hc xc md (.isi a ts) s = .ok (.bl k) s1 := bind_k h (bind_k (opS_k ho) rfl)
theorem e_bm {m : Bm} {v : Ov} {u : Unit} {q : Rs D} (ho : ev P hc xc 1 o s = .ok x s1) (hk : lstOk s1.S x = some u) (h : evL P hc xc es 0 s1 = .ok ds ⟨τ, S⟩) (hb : bmD S m x ds = some (v, S1)) (hf : fin md v ⟨τ, S1⟩ = q) : ev P hc xc md (.bm o m es) s = q :=
  bind_k ho (bind_k (opS_k hk) (bind_k h (by unfold bmM; dsimp only; rw [hb]; exact hf)))
theorem e_exf {m : Str} (h : τ[i]? = some (some .exc)) (hl : lookK m xc.1 xc.2 = some d) : ev P hc xc md (.exf i m) ⟨τ, S⟩ = .ok d ⟨τ, S⟩ := by
  show exfM i m xc ⟨τ, S⟩ = _
  unfold exfM
  rw [h]
  show (match lookK m xc.1 xc.2 with | some d => _ | none => _) = _
  rw [hl]
theorem e_make {c : Nat} {q : Cl} {fn : Fn} (h : evL P hc xc es 0 s = .ok ds ⟨τ, S⟩) (hq : P.cl c = some q) (hx : q.exc = none) (hfn : P.fns[q.init]? = some fn) (hl : fn.np = ds.length + 1) (h2 : hc q.init (.ref S.length :: ds) 0 (S ++ [some (.obj c [] [])]) = .ok .non S1)
    (h3 : S1[S.length]? = some (some d)) : ev P hc xc 0 (.make 0 c es) s = .ok d ⟨τ, S1.set S.length none⟩ := by
  refine bind_k h ?_
  unfold makeM
  rw [hq]
  dsimp only
  rw [if_neg (by rw [hx, hfn]; simp [hl]), h2]
  dsimp only
  rw [h3]
  rfl
theorem e_makeX {dm c c1 : Nat} {ns : List Str} {q : Cl} {fn : Fn} (h : evL P hc xc es 0 s = .ok ds ⟨τ, S⟩) (hq : P.cl c = some q) (hx : q.exc = none) (hfn : P.fns[q.init]? = some fn) (hl : fn.np = ds.length + 1) (h2 : hc q.init (.ref S.length :: ds) 0 (S ++ [some (.obj c [] [])]) = .exn c1 ns xs S1) : ev P hc xc md (.make dm c es) s = .exn c1 ns xs ⟨τ, S1⟩ := by
  refine bind_k h ?_
  unfold makeM
  rw [hq]
  dsimp only
  rw [if_neg (by rw [hx, hfn]; simp [hl]), h2]
/-- an object that lives on as a cell -/
theorem e_make1 {dm c : Nat} {q : Cl} {fn : Fn} (h : evL P hc xc es 0 s = .ok ds ⟨τ, S⟩) (hq : P.cl c = some q) (hx : q.exc = none) (hfn : P.fns[q.init]? = some fn) (hl : fn.np = ds.length + 1) (h2 : hc q.init (.ref S.length :: ds) 0 (S ++ [some (.obj c [] [])]) = .ok .non S1)
    (h3 : S1[S.length]? = some (some d)) : ev P hc xc md (.make (dm + 1) c es) s = .ok (.ref S.length) ⟨τ, S1⟩ := by
  refine bind_k h ?_
  unfold makeM
  rw [hq]
  dsimp only
  rw [if_neg (by rw [hx, hfn]; simp [hl]), h2]
  dsimp only
  rw [h3]
  rfl
theorem e_fnv : ev P hc xc md (.fnv f) s = .ok (.fn f) s := rfl
theorem e_callV {q : Fn} (hf : τ1[i]? = some (some (.fn f))) (h : evL P hc xc es 0 ⟨τ1, S2⟩ = .ok ds ⟨τ, S⟩) (hq : P.fns[f]? = some q) (hl : ds.length = q.np) (h2 : hc f ds md S = .ok d S1) : ev P hc xc md (.callV i es) ⟨τ1, S2⟩ = .ok d ⟨τ, S1⟩ :=
  bind_k (s1 := ⟨τ1, S2⟩) (a := f) (by unfold fnAt; rw [hf]; dsimp only; rw [hq]; rfl) (bind_k h (callP_k hq hl h2))
theorem e_callVX {q : Fn} {c : Nat} {ns : List Str} (hf : τ1[i]? = some (some (.fn f))) (h : evL P hc xc es 0 ⟨τ1, S2⟩ = .ok ds ⟨τ, S⟩) (hq : P.fns[f]? = some q) (hl : ds.length = q.np) (h2 : hc f ds md S = .exn c ns xs S1) : ev P hc xc md (.callV i es) ⟨τ1, S2⟩ = .exn c ns xs ⟨τ, S1⟩ :=
  bind_k (s1 := ⟨τ1, S2⟩) (a := f) (by unfold fnAt; rw [hf]; dsimp only; rw [hq]; rfl) (bind_k h (callP_x hq hl h2))
theorem e_rev {v : Ov} {q : Rs D} (ho : ev P hc xc 0 o s = .ok x s1) (h : revD s1.S x = some v) (hf : fin md v s1 = q) : ev P hc xc md (.rev o) s = q := bind_k ho (bind_k (opS_k h) hf)
theorem len_none {n : Nat} (h : lenD S x = some n) : methD P S x "__len__" = none := by
  unfold methD
  split
  · rename_i c ns xs hd
    unfold lenD at h
    rw [hd] at h
    cases h
  · rfl
theorem e_len {n : Nat} (ho : ev P hc xc 0 o s = .ok x s1) (h : lenD s1.S x = some n) : ev P hc xc md (.len o) s = .ok (.int (n : Int)) s1 := by
  refine bind_k ho ?_
  unfold lenM
  rw [len_none h]
  exact bind_k (opS_k h) rfl
theorem e_lenO {q : Fn} {n : Int} (ho : ev P hc xc 0 o s = .ok x ⟨τ, S⟩) (hm : methD P S x "__len__" = some f) (hq : P.fns[f]? = some q) (hl : q.np = 1) (h2 : hc f [x] 0 S = .ok (.int n) S1) (h0 : 0 ≤ n) (h1 : n < 2 ^ 62) : ev P hc xc md (.len o) s = .ok (.int n) ⟨τ, S1⟩ := by
  refine bind_k ho ?_
  unfold lenM
  dsimp only
  rw [hm]
  refine bind_k (callP_k (md := 0) (τ := τ) hq (by rw [hl]; rfl) h2) ?_
  refine bind_k (s1 := ⟨τ, S1⟩) (a := n) rfl ?_
  rw [if_pos ⟨h0, h1⟩]
/-- the class's own == -/
theorem e_eqO {q : Fn} (ha : ev P hc xc 0 a s = .ok x s1) (hb : ev P hc xc 0 b s1 = .ok y ⟨τ, S⟩) (hy : okAny P S y = true) (hm : methD P S x "__eq__" = some f) (hq : P.fns[f]? = some q) (hl : q.np = 2) (h2 : hc f [x, y] 0 S = .ok (.bl k) S1) : ev P hc xc md (.cmp .Eq a b) s = .ok (.bl k) ⟨τ, S1⟩ := by
  refine bind_k ha (bind_k hb ?_)
  unfold cmpM ownEq
  dsimp only
  rw [if_pos hy, hm]
  refine bind_k (callP_k (md := 0) (τ := τ) hq (by rw [hl]; rfl) h2) ?_
  exact bind_k (s1 := ⟨τ, S1⟩) (a := k) rfl rfl
theorem liftO_k {α : Type} {o : Option α} {v : α} (h : o = some v) : liftO o s = .ok v s := by subst h; rfl
theorem e_ssp {p r : Str} {v : Ov} {q : Rs D} (ho : ev P hc xc 0 o s = .ok (.str p) s1) (he : ev P hc xc 0 e s1 = .ok (.str r) s2) (h : splitD p r = some v) (hf : fin md v s2 = q) : ev P hc xc md (.ssp o e) s = q :=
  bind_k ho (bind_k (s1 := s1) (a := p) rfl (bind_k he (bind_k (liftO_k (s := s2) (v := v) (by show splitD p r = _; exact h)) hf)))
theorem e_sjn {p : Str} (ho : ev P hc xc 0 o s = .ok (.str p) s1) (he : ev P hc xc 0 e s1 = .ok x s2) (h : joinD s2.S p x = some d) : ev P hc xc md (.sjn o e) s = .ok d s2 :=
  bind_k ho (bind_k (s1 := s1) (a := p) rfl (bind_k he (opS_k h)))
/-! lists -/
theorem l_nil : evL P hc xc [] md s = .ok [] s := rfl
theorem l_cons (hn : notStarT e = true) (h : ev P hc xc md e s = .ok d s1) (h2 : evL P hc xc es md s1 = .ok ds s2) : evL P hc xc (e :: es) md s = .ok (d :: ds) s2 := by
  rw [evL_cons hn]; exact bind_k h (bind_k h2 rfl)
theorem l_star (h : ev P hc xc 0 e s = .ok d s1) (hq : seqD s1.S d = some xs) (h2 : evL P hc xc es md s1 = .ok ds s2) : evL P hc xc (.star e :: es) md s = .ok (xs ++ ds) s2 := bind_k h (bind_k (opS_k hq) (bind_k h2 rfl))
/-! tests -/
theorem t_cmp (ha : ev P hc xc 0 a s = .ok x s1) (hb : ev P hc xc 0 b s1 = .ok y s2) (ho : cmpD s2.S op x y = some k) : evT P hc xc (.cmp op a b) s = .ok k s2 := bind_k (e_cmp (md := 0) ha hb ho) rfl
theorem t_chnT (ha : ev P hc xc 0 a s = .ok x s1) (hb : ev P hc xc 0 b s1 = .ok y s2) (ho : cmpD s2.S op x y = some k) (hk : k = true) (hc' : ev P hc xc 0 c s2 = .ok z s3) (ho' : cmpD s3.S op' y z = some k2) : evT P hc xc (.chn op op' a b c) s = .ok k2 s3 := bind_k (e_chnT (md := 0) ha hb ho hk hc' ho') rfl
theorem t_chnF (ha : ev P hc xc 0 a s = .ok x s1) (hb : ev P hc xc 0 b s1 = .ok y s2) (ho : cmpD s2.S op x y = some k) (hk : k = false) : evT P hc xc (.chn op op' a b c) s = .ok false s2 := bind_k (e_chnF (md := 0) ha hb ho hk) rfl
theorem t_chn (ha : ev P hc xc 0 a s = .ok x s1) (hb : ev P hc xc 0 b s1 = .ok y s2) (ho : cmpD s2.S op x y = some k) (hc' : ev P hc xc 0 c s2 = .ok z s2) (ho' : cmpD s2.S op' y z = some k2) : evT P hc xc (.chn op op' a b c) s = .ok (k && k2) s2 := bind_k (e_chn (md := 0) ha hb ho hc' ho') rfl
theorem t_andT {q : Rs Bool} (ha : evT P hc xc a s = .ok k s1) (hk : k = true) (hb : evT P hc xc b s1 = q) : evT P hc xc (.and a b) s = q := by subst hk; exact bind_k ha hb
theorem t_andF (ha : evT P hc xc a s = .ok k s1) (hk : k = false) : evT P hc xc (.and a b) s = .ok false s1 := by subst hk; exact bind_k ha rfl
theorem t_and (ha : evT P hc xc a s = .ok k s1) (hb : evT P hc xc b s1 = .ok k2 s1) : evT P hc xc (.and a b) s = .ok (k && k2) s1 := by
  cases k
  · exact t_andF ha rfl
  · exact t_andT ha rfl hb
theorem t_orT (ha : evT P hc xc a s = .ok k s1) (hk : k = true) : evT P hc xc (.or a b) s = .ok true s1 := by subst hk; exact bind_k ha rfl
theorem t_orF {q : Rs Bool} (ha : evT P hc xc a s = .ok k s1) (hk : k = false) (hb : evT P hc xc b s1 = q) : evT P hc xc (.or a b) s = q := by subst hk; exact bind_k ha hb
theorem t_or (ha : evT P hc xc a s = .ok k s1) (hb : evT P hc xc b s1 = .ok k2 s1) : evT P hc xc (.or a b) s = .ok (k || k2) s1 := by
  cases k
  · exact t_orF ha rfl hb
  · exact t_orT ha rfl
theorem t_cmpP (ha : ev P hc xc 0 a s = .ok x s1) (hb : ev P hc xc 0 b s1 = .ok y s2) (ho : cmpD s2.S op x y = some k) : evT P hc xc (.cmpP op a b) s = .ok k s2 := bind_k (e_cmpP (md := 0) ha hb ho) rfl
theorem t_eqO (h : ev P hc xc 0 (.cmp op a b) s = .ok (.bl k) s1) : evT P hc xc (.cmp op a b) s = .ok k s1 := bind_k h rfl
theorem t_len (h : ev P hc xc 0 (.len o) s = .ok d s1) (ht : truD s1.S d = some k) : evT P hc xc (.len o) s = .ok k s1 := bind_k h (opS_k ht)
theorem t_not (ha : evT P hc xc a s = .ok k s1) : evT P hc xc (.not a) s = .ok (!k) s1 := bind_k ha rfl
theorem t_call (h : ev P hc xc 0 (.call f es) s = .ok d s1) (ht : truD s1.S d = some k) : evT P hc xc (.call f es) s = .ok k s1 := bind_k h (opS_k ht)
theorem t_meth {m : Str} (h : ev P hc xc 0 (.meth o m es) s = .ok d s1) (ht : truD s1.S d = some k) : evT P hc xc (.meth o m es) s = .ok k s1 := bind_k h (opS_k ht)
theorem t_blt {m : Bl} (h : ev P hc xc 0 (.blt m es) s = .ok d s1) (ht : truD s1.S d = some k) : evT P hc xc (.blt m es) s = .ok k s1 := bind_k h (opS_k ht)
theorem t_isi {ts : List Ty} (h : ev P hc xc 0 (.isi a ts) s = .ok (.bl k) s1) : evT P hc xc (.isi a ts) s = .ok k s1 := bind_k h rfl
theorem t_var {fz : Bool} (h : ev P hc xc 0 (.var i fz) s = .ok d s1) (ht : truD s1.S d = some k) : evT P hc xc (.var i fz) s = .ok k s1 := bind_k h (opS_k ht)
theorem t_con {c : Cn} (ht : truD s.S c.d = some k) : evT P hc xc (.con c) s = .ok k s := by
  show M.bind (ev P hc xc 0 (.con c)) (fun d => opS (fun S _ => truD S d) ()) s = _
  exact bind_k e_con (opS_k ht)
/-! statements -/
variable {t u : TB} {st : Gc.TS} {fl : Fl} {q : Rs Fl}
theorem q_nil : exB P hc xc rmd .nil s = .ok .nx s := rfl
theorem q_cons (h : exS P hc xc rmd st s = .ok .nx s1) (h2 : exB P hc xc rmd t s1 = q) : exB P hc xc rmd (.cons st t) s = q := bind_k h h2
theorem q_ret (h : exS P hc xc rmd st s = .ok (.rt d) s1) : exB P hc xc rmd (.cons st t) s = .ok (.rt d) s1 := bind_k h rfl
theorem q_x {c : Nat} {ns : List Str} (h : exS P hc xc rmd st s = .exn c ns xs s1) : exB P hc xc rmd (.cons st t) s = .exn c ns xs s1 := bind_x h
theorem q_brk (h : exS P hc xc rmd st s = .ok .bk s1) : exB P hc xc rmd (.cons st t) s = .ok .bk s1 := bind_k h rfl
theorem q_cnt (h : exS P hc xc rmd st s = .ok .ct s1) : exB P hc xc rmd (.cons st t) s = .ok .ct s1 := bind_k h rfl
theorem x_pass : exS P hc xc rmd .pass s = .ok .nx s := rfl
theorem x_cnt : exS P hc xc rmd .cnt s = .ok .ct s := rfl
theorem x_brk : exS P hc xc rmd .brk s = .ok .bk s := rfl
theorem x_expr (h : ev P hc xc 0 e s = .ok d s1) : exS P hc xc rmd (.expr e) s = .ok .nx s1 := bind_k h rfl
theorem x_exprX {c : Nat} {ns : List Str} (h : ev P hc xc 0 e s = .exn c ns xs s1) : exS P hc xc rmd (.expr e) s = .exn c ns xs s1 := bind_x h
theorem x_asg (h : ev P hc xc md e s = .ok d ⟨τ, S⟩) : exS P hc xc rmd (.asg i md e) s = .ok .nx ⟨τ.set i (some d), S⟩ := bind_k h (bind_k rfl rfl)
theorem x_asgX {c : Nat} {ns : List Str} (h : ev P hc xc md e s = .exn c ns xs s1) : exS P hc xc rmd (.asg i md e) s = .exn c ns xs s1 := bind_x h
theorem x_unp {is : List Nat} (h : ev P hc xc 0 e s = .ok d s1) (h2 : bindT (.tup is) d s1 = .ok () s2) : exS P hc xc rmd (.unp is e) s = .ok .nx s2 := bind_k h (bind_k h2 rfl)
theorem x_par {j : Nat} (h : evL P hc xc [a, b] 0 s = .ok [x, y] ⟨τ, S⟩) : exS P hc xc rmd (.par i j a b) s = .ok .nx ⟨(τ.set i (some x)).set j (some y), S⟩ := bind_k h (bind_k rfl rfl)
theorem x_put {S' : List (Option D)} (h : ev P hc xc 0 e s = .ok d s1) (h2 : ev P hc xc 0 o s1 = .ok x s2) (h3 : ev P hc xc 0 a s2 = .ok y ⟨τ, S⟩) (h4 : putD S x y d = some S') : exS P hc xc rmd (.put o a e) s = .ok .nx ⟨τ, S'⟩ := bind_k h (bind_k h2 (bind_k h3 (by unfold storeM; dsimp only; rw [h4])))
theorem x_fld {S' : List (Option D)} {m : Str} (h : ev P hc xc 0 e s = .ok d s1) (h2 : ev P hc xc 0 o s1 = .ok x ⟨τ, S⟩) (h4 : fldD P S x m d = some S') : exS P hc xc rmd (.fld o m e) s = .ok .nx ⟨τ, S'⟩ := bind_k h (bind_k h2 (by unfold storeM; dsimp only; rw [h4]))
theorem x_iteT (h : evT P hc xc e s = .ok k s1) (hk : k = true) (h2 : exB P hc xc rmd t s1 = q) : exS P hc xc rmd (.ite e t u) s = q := by subst hk; exact bind_k h h2
theorem x_iteF (h : evT P hc xc e s = .ok k s1) (hk : k = false) (h2 : exB P hc xc rmd u s1 = q) : exS P hc xc rmd (.ite e t u) s = q := by subst hk; exact bind_k h h2
theorem x_ite (h : evT P hc xc e s = .ok k s1) (h1 : k = true → exB P hc xc rmd t s1 = q) (h2 : k = false → exB P hc xc rmd u s1 = q) : exS P hc xc rmd (.ite e t u) s = q := by
  cases k
  · exact x_iteF h rfl (h2 rfl)
  · exact x_iteT h rfl (h1 rfl)
theorem x_for {tg : Gc.TG} {w : Wk} {ws : List Nat} (h0 : wipeT ws τ = τ1) (h : evL P hc xc its 0 ⟨τ1, S⟩ = .ok ds s1) (hw : walkD s1.S w ds = some src) (h2 : forL (fun x => M.bind (bindT tg x) fun _ => wipeA ws (exB P hc xc rmd t)) src s1 = q) : exS P hc xc rmd (.forr ws tg w its t) ⟨τ, S⟩ = q :=
  (by subst h0; exact bind_k (bind_k h (opS_k hw)) h2 : M.bind (wkM w (evL P hc xc its 0)) (fun src => forL (fun x => M.bind (bindT tg x) fun _ => wipeA ws (exB P hc xc rmd t)) src) ⟨wipeT ws τ, S⟩ = q)
theorem x_whl {ws : List Nat} (h0 : wipeT ws τ = τ1) (h : whlL (evT P hc xc e) (wipeA ws (exB P hc xc rmd t)) P.fu ⟨τ1, S⟩ = q) : exS P hc xc rmd (.whl ws e t) ⟨τ, S⟩ = q :=
  (by subst h0; exact h : whlL (evT P hc xc e) (wipeA ws (exB P hc xc rmd t)) P.fu ⟨wipeT ws τ, S⟩ = q)
theorem x_ret (h : ev P hc xc rmd e s = .ok d s1) : exS P hc xc rmd (.ret e) s = .ok (.rt d) s1 := bind_k h rfl
theorem x_retX {c : Nat} {ns : List Str} (h : ev P hc xc rmd e s = .exn c ns xs s1) : exS P hc xc rmd (.ret e) s = .exn c ns xs s1 := bind_x h
theorem x_retN : exS P hc xc rmd .retN s = .ok (.rt .non) s := rfl
theorem x_rse {c : Nat} {ns : List Str} {cq : Cl} (h : evL P hc xc es 0 s = .ok ds s1) (hq : P.cl c = some cq) (hx : cq.exc = some ns) (hl : ds.length = ns.length) : exS P hc xc rmd (.rse c es) s = .exn c ns ds s1 :=
  bind_k h (by unfold rseM; rw [hq]; dsimp only; rw [hx]; dsimp only; rw [if_pos hl])
theorem x_triN {hs : TH} (h : exB P hc xc rmd t s = .ok fl s1) : exS P hc xc rmd (.tri t hs) s = .ok fl s1 := by
  show triM _ _ s = _
  unfold triM
  rw [h]
theorem x_triX {hs : TH} {c : Nat} {ns : List Str} (h : exB P hc xc rmd t s = .exn c ns xs s1) (h2 : exH P hc rmd hs c ns xs s1 = q) : exS P hc xc rmd (.tri t hs) s = q := by
  show triM _ _ s = _
  unfold triM
  rw [h]
  exact h2
theorem h_hit {hs : TH} {c h0 : Nat} {oi : Option Nat} {ns : List Str} (hu : isUp P c h0 = some true) (h2 : exB P hc (ns, xs) rmd t ⟨inX oi τ, S⟩ = .ok fl ⟨τ1, S1⟩) : exH P hc rmd (.cons h0 oi t hs) c ns xs ⟨τ, S⟩ = .ok fl ⟨outX oi τ1, S1⟩ := by
  show hdK P h0 oi _ _ c ns xs ⟨τ, S⟩ = _
  unfold hdK
  rw [hu]
  dsimp only
  unfold suiteM
  dsimp only
  rw [h2]
theorem h_miss {hs : TH} {c h0 : Nat} {oi : Option Nat} {ns : List Str} (hu : isUp P c h0 = some false) (h2 : exH P hc rmd hs c ns xs s = q) : exH P hc rmd (.cons h0 oi t hs) c ns xs s = q := by
  show hdK P h0 oi _ _ c ns xs s = _
  unfold hdK
  rw [hu]
  exact h2
/-! a def's run -/
theorem run_ret {fe : Fe} (hl : ds.length = fe.np) (h : exB P hc ([], []) md fe.tb ⟨ds.map some ++ List.replicate (fe.nl - ds.length) none, S⟩ = .ok (.rt d) ⟨τ, S1⟩) : runB P hc fe ds md S = .ok d S1 := by
  unfold runB; rw [if_pos hl, h]
theorem run_nx {fe : Fe} (hl : ds.length = fe.np) (h : exB P hc ([], []) md fe.tb ⟨ds.map some ++ List.replicate (fe.nl - ds.length) none, S⟩ = .ok .nx ⟨τ, S1⟩) : runB P hc fe ds md S = .ok .non S1 := by
  unfold runB; rw [if_pos hl, h]
theorem run_x {fe : Fe} {c : Nat} {ns : List Str} (hl : ds.length = fe.np) (h : exB P hc ([], []) md fe.tb ⟨ds.map some ++ List.replicate (fe.nl - ds.length) none, S⟩ = .exn c ns xs ⟨τ, S1⟩) : runB P hc fe ds md S = .exn c ns xs S1 := by
  unfold runB; rw [if_pos hl, h]
end
end Gc

end

section
set_option Elab.async false
set_option linter.all false
set_option maxRecDepth 100000
set_option maxHeartbeats 1000000
/-! runs, on: blocks in one line, tests, loops, comprehensions, leaves -/
namespace Gc
open PySem L2
def TB.app : TB → TB → TB
  | .nil, t => t
  | .cons s r, t => .cons s (TB.app r t)
section
variable {P : Pg} {hc : Hc} {xc : List Str × List D} {a b c e o : TX} {es us its ifs : List TX} {md rmd i j : Nat} {τ τ0 τ1 : List (Option D)} {S S0 S1 S2 : List (Option D)} {s s1 s2 s3 s4 : MS} {x y z d r : D} {ds xs src : List D} {k k1 k2 : Bool} {op op' : CmpOp} {f : Nat}
variable {t u v : TB} {st : Gc.TS} {fl : Fl} {q : Rs Fl}
theorem app_run : ∀ (t u : TB) (s : MS), thenM (exB P hc xc rmd t) (exB P hc xc rmd u) s = exB P hc xc rmd (t.app u) s
  | .nil, u, s => rfl
  | .cons st r, u, s => by
    show M.bind (M.bind (exS P hc xc rmd st) fun fl => match fl with | .nx => exB P hc xc rmd r | fl => M.pure fl) (fun fl => match fl with | .nx => exB P hc xc rmd u | fl => M.pure fl) s = M.bind (exS P hc xc rmd st) (fun fl => match fl with | .nx => exB P hc xc rmd (r.app u) | fl => M.pure fl) s
    rw [M.bind_assoc]
    unfold M.bind
    cases exS P hc xc rmd st s with
    | bad => rfl
    | exn c ns xs s' => rfl
    | ok fl s' =>
      cases fl with
      | nx => exact app_run r u s'
      | _ => rfl
theorem b_asg (h : ev P hc xc md e s = .ok d ⟨τ, S⟩) (h2 : exB P hc xc rmd t ⟨τ.set i (some d), S⟩ = q) : exB P hc xc rmd (.cons (.asg i md e) t) s = q := q_cons (x_asg h) h2
theorem b_expr (h : ev P hc xc 0 e s = .ok d s1) (h2 : exB P hc xc rmd t s1 = q) : exB P hc xc rmd (.cons (.expr e) t) s = q := q_cons (x_expr h) h2
theorem b_unp {is : List Nat} (h : ev P hc xc 0 e s = .ok d s1) (h2 : bindT (.tup is) d s1 = .ok () s2) (h3 : exB P hc xc rmd t s2 = q) : exB P hc xc rmd (.cons (.unp is e) t) s = q := q_cons (x_unp h h2) h3
theorem b_par (h : evL P hc xc [a, b] 0 s = .ok [x, y] ⟨τ, S⟩) (h2 : exB P hc xc rmd t ⟨(τ.set i (some x)).set j (some y), S⟩ = q) : exB P hc xc rmd (.cons (.par i j a b) t) s = q := q_cons (x_par h) h2
theorem b_put {S' : List (Option D)} (h : ev P hc xc 0 e s = .ok d s1) (h2 : ev P hc xc 0 o s1 = .ok x s2) (h3 : ev P hc xc 0 a s2 = .ok y ⟨τ, S⟩) (h4 : putD S x y d = some S') (h5 : exB P hc xc rmd t ⟨τ, S'⟩ = q) : exB P hc xc rmd (.cons (.put o a e) t) s = q := q_cons (x_put h h2 h3 h4) h5
theorem b_fld {S' : List (Option D)} {m : Str} (h : ev P hc xc 0 e s = .ok d s1) (h2 : ev P hc xc 0 o s1 = .ok x ⟨τ, S⟩) (h4 : fldD P S x m d = some S') (h5 : exB P hc xc rmd t ⟨τ, S'⟩ = q) : exB P hc xc rmd (.cons (.fld o m e) t) s = q := q_cons (x_fld h h2 h4) h5
theorem b_ite (h : evT P hc xc e s = .ok k s1) (h2 : exB P hc xc rmd (cond k (t.app v) (u.app v)) s1 = q) : exB P hc xc rmd (.cons (.ite e t u) v) s = q := by
  show thenM (exS P hc xc rmd (.ite e t u)) (exB P hc xc rmd v) s = q
  have e1 : ∀ w : TB, exS P hc xc rmd (.ite e t u) s = exB P hc xc rmd w s1 → exB P hc xc rmd (w.app v) s1 = q → thenM (exS P hc xc rmd (.ite e t u)) (exB P hc xc rmd v) s = q := fun w g1 g2 => by
    rw [← g2, ← app_run]
    unfold thenM M.bind
    rw [g1]
  cases k
  · exact e1 u (x_iteF h rfl rfl) h2
  · exact e1 t (x_iteT h rfl rfl) h2
theorem e_cint {i : Int} : ev P hc xc md (.con (.int i)) s = .ok (.int i) s := rfl
theorem e_cstr {i : Str} : ev P hc xc md (.con (.str i)) s = .ok (.str i) s := rfl
theorem e_cbl {i : Bool} : ev P hc xc md (.con (.bl i)) s = .ok (.bl i) s := rfl
theorem e_cnon : ev P hc xc md (.con .non) s = .ok .non s := rfl
theorem b_app (h : exB P hc xc rmd (.cons st (t.app u)) s = q) : exB P hc xc rmd (TB.app (.cons st t) u) s = q := h
theorem b_app0 (h : exB P hc xc rmd u s = q) : exB P hc xc rmd (TB.app .nil u) s = q := h
theorem b_ret (h : ev P hc xc rmd e s = .ok d s1) : exB P hc xc rmd (.cons (.ret e) t) s = .ok (.rt d) s1 := q_ret (x_ret h)
theorem b_retN : exB P hc xc rmd (.cons .retN t) s = .ok (.rt .non) s := q_ret x_retN
theorem b_rse {c : Nat} {ns : List Str} {cq : Cl} (h : evL P hc xc es 0 s = .ok ds s1) (hq : P.cl c = some cq) (hx : cq.exc = some ns) (hl : ds.length = ns.length) : exB P hc xc rmd (.cons (.rse c es) t) s = .exn c ns ds s1 := q_x (x_rse h hq hx hl)
theorem b_pass (h : exB P hc xc rmd t s = q) : exB P hc xc rmd (.cons .pass t) s = q := q_cons x_pass h
theorem b_cnt : exB P hc xc rmd (.cons .cnt t) s = .ok .ct s := q_cnt x_cnt
theorem b_brk : exB P hc xc rmd (.cons .brk t) s = .ok .bk s := q_brk x_brk
theorem b_for {tg : Gc.TG} {w : Wk} {ws : List Nat} (h0 : wipeT ws τ = τ1) (h : evL P hc xc its 0 ⟨τ1, S⟩ = .ok ds s1) (hw : walkD s1.S w ds = some src) (h2 : forL (fun x => M.bind (bindT tg x) fun _ => wipeA ws (exB P hc xc rmd t)) src s1 = .ok .nx s2) (h3 : exB P hc xc rmd u s2 = q) : exB P hc xc rmd (.cons (.forr ws tg w its t) u) ⟨τ, S⟩ = q := q_cons (x_for h0 h hw h2) h3
theorem b_forR {tg : Gc.TG} {w : Wk} {ws : List Nat} (h0 : wipeT ws τ = τ1) (h : evL P hc xc its 0 ⟨τ1, S⟩ = .ok ds s1) (hw : walkD s1.S w ds = some src) (h2 : forL (fun x => M.bind (bindT tg x) fun _ => wipeA ws (exB P hc xc rmd t)) src s1 = .ok (.rt d) s2) : exB P hc xc rmd (.cons (.forr ws tg w its t) u) ⟨τ, S⟩ = .ok (.rt d) s2 := q_ret (x_for h0 h hw h2)
theorem b_forX {tg : Gc.TG} {w : Wk} {ws : List Nat} {c : Nat} {ns : List Str} (h0 : wipeT ws τ = τ1) (h : evL P hc xc its 0 ⟨τ1, S⟩ = .ok ds s1) (hw : walkD s1.S w ds = some src) (h2 : forL (fun x => M.bind (bindT tg x) fun _ => wipeA ws (exB P hc xc rmd t)) src s1 = .exn c ns xs s2) : exB P hc xc rmd (.cons (.forr ws tg w its t) u) ⟨τ, S⟩ = .exn c ns xs s2 := q_x (x_for h0 h hw h2)
theorem b_whl {ws : List Nat} (h0 : wipeT ws τ = τ1) (h : whlL (evT P hc xc e) (wipeA ws (exB P hc xc rmd t)) P.fu ⟨τ1, S⟩ = .ok .nx s1) (h3 : exB P hc xc rmd u s1 = q) : exB P hc xc rmd (.cons (.whl ws e t) u) ⟨τ, S⟩ = q := q_cons (x_whl h0 h) h3
theorem b_whlR {ws : List Nat} (h0 : wipeT ws τ = τ1) (h : whlL (evT P hc xc e) (wipeA ws (exB P hc xc rmd t)) P.fu ⟨τ1, S⟩ = .ok (.rt d) s1) : exB P hc xc rmd (.cons (.whl ws e t) u) ⟨τ, S⟩ = .ok (.rt d) s1 := q_ret (x_whl h0 h)
/-! choices -/
theorem k_t {α β : Type} {F : α → β} {A B : α} {z : β} (hk : k = true) (h : F A = z) : F (cond k A B) = z := by subst hk; exact h
theorem bk_t (hk : k = true) (h : exB P hc xc rmd t s = q) : exB P hc xc rmd (cond k t u) s = q := by subst hk; exact h
theorem bk_f (hk : k = false) (h : exB P hc xc rmd u s = q) : exB P hc xc rmd (cond k t u) s = q := by subst hk; exact h
theorem c_t {α : Type} {A B z : α} (hk : k = true) (h : A = z) : cond k A B = z := by subst hk; exact h
theorem c_f {α : Type} {A B z : α} (hk : k = false) (h : B = z) : cond k A B = z := by subst hk; exact h
theorem c_or (h : evT P hc xc b s = .ok k2 s) : cond k (.ok true s) (evT P hc xc b s) = .ok (k || k2) s := by cases k; exact h; rfl
theorem c_and (h : evT P hc xc b s = .ok k2 s) : cond k (evT P hc xc b s) (.ok false s) = .ok (k && k2) s := by cases k; rfl; exact h
theorem c_orV (h : ev P hc xc md b s = .ok (.bl k2) s) : cond k (.ok (.bl true) s) (ev P hc xc md b s) = .ok (.bl (k || k2)) s := by cases k; exact h; rfl
theorem c_andV (h : ev P hc xc md b s = .ok (.bl k2) s) : cond k (ev P hc xc md b s) (.ok (.bl false) s) = .ok (.bl (k && k2)) s := by cases k; rfl; exact h
theorem c_ife (h : ev P hc xc md a s = .ok x s) (h' : ev P hc xc md b s = .ok y s) : cond k (ev P hc xc md a s) (ev P hc xc md b s) = .ok (cond k x y) s := by cases k; exact h'; exact h
theorem tc_or {q : Rs Bool} (ha : evT P hc xc a s = .ok k s1) (h : cond k (.ok true s1) (evT P hc xc b s1) = q) : evT P hc xc (.or a b) s = q := by
  cases k
  · exact t_orF ha rfl h
  · rw [← h]; exact t_orT ha rfl
theorem tc_and {q : Rs Bool} (ha : evT P hc xc a s = .ok k s1) (h : cond k (evT P hc xc b s1) (.ok false s1) = q) : evT P hc xc (.and a b) s = q := by
  cases k
  · rw [← h]; exact t_andF ha rfl
  · exact t_andT ha rfl h
theorem ec_or {q : Rs D} (ha : ev P hc xc 0 a s = .ok (.bl k) s1) (h : cond k (.ok (.bl true) s1) (ev P hc xc md b s1) = q) : ev P hc xc md (.or a b) s = q := by
  cases k
  · exact e_orF ha rfl h
  · rw [← h]; exact e_orT ha rfl
theorem ec_and {q : Rs D} (ha : ev P hc xc 0 a s = .ok (.bl k) s1) (h : cond k (ev P hc xc md b s1) (.ok (.bl false) s1) = q) : ev P hc xc md (.and a b) s = q := by
  cases k
  · rw [← h]; exact e_andF ha rfl
  · exact e_andT ha rfl h
theorem ec_ife {q : Rs D} (ha : evT P hc xc c s = .ok k s1) (h : cond k (ev P hc xc md a s1) (ev P hc xc md b s1) = q) : ev P hc xc md (.ife c a b) s = q := by
  cases k
  · exact e_ifeF ha rfl h
  · exact e_ifeT ha rfl h
/-! a def's run -/
theorem runR {fe : Fe} {d' : D} {S1' : List (Option D)} (hl : ds.length = fe.np) (h0 : ds.map some ++ List.replicate (fe.nl - ds.length) none = τ0) (h : exB P hc ([], []) md fe.tb ⟨τ0, S⟩ = .ok (.rt d') ⟨τ, S1'⟩) (hd : d' = d) (hS : S1' = S1) : runB P hc fe ds md S = .ok d S1 := by
  subst hd hS
  exact run_ret hl (by rw [h0]; exact h)
theorem runN {fe : Fe} {S1' : List (Option D)} (hl : ds.length = fe.np) (h0 : ds.map some ++ List.replicate (fe.nl - ds.length) none = τ0) (h : exB P hc ([], []) md fe.tb ⟨τ0, S⟩ = .ok .nx ⟨τ, S1'⟩) (hS : S1' = S1) : runB P hc fe ds md S = .ok .non S1 := by
  subst hS
  exact run_nx hl (by rw [h0]; exact h)
theorem runX {fe : Fe} {c : Nat} {ns : List Str} {xs' : List D} {S1' : List (Option D)} (hl : ds.length = fe.np) (h0 : ds.map some ++ List.replicate (fe.nl - ds.length) none = τ0) (h : exB P hc ([], []) md fe.tb ⟨τ0, S⟩ = .exn c ns xs' ⟨τ, S1'⟩) (hd : xs' = xs) (hS : S1' = S1) : runB P hc fe ds md S = .exn c ns xs S1 := by
  subst hd hS
  exact run_x hl (by rw [h0]; exact h)
/-! loops -/
theorem for_nil {turn : D → M Fl} : forL turn [] s = .ok .nx s := rfl
/-- a loop that is run to its end -/
theorem for_inv {turn : D → M Fl} (I : List D → MS → Prop) (step : ∀ x rest s, I (x :: rest) s → ∃ s', (turn x s = .ok .nx s' ∨ turn x s = .ok .ct s') ∧ I rest s') : ∀ src s, I src s → ∃ s', forL turn src s = .ok .nx s' ∧ I [] s'
  | [], s, h => ⟨s, rfl, h⟩
  | x :: rest, s, h => by
    obtain ⟨s', h1, h2⟩ := step x rest s h
    obtain ⟨s2, h3, h4⟩ := for_inv I step rest s' h2
    refine ⟨s2, ?_, h4⟩
    rcases h1 with h1 | h1
    · exact bind_k h1 h3
    · exact bind_k h1 h3
/-- a loop that may return -/
theorem for_invR {turn : D → M Fl} (I : List D → MS → Prop) (R : D → MS → Prop) (step : ∀ x rest s, I (x :: rest) s → (∃ s', (turn x s = .ok .nx s' ∨ turn x s = .ok .ct s') ∧ I rest s') ∨ ∃ d s', turn x s = .ok (.rt d) s' ∧ R d s') :
    ∀ src s, I src s → (∃ s', forL turn src s = .ok .nx s' ∧ I [] s') ∨ ∃ d s', forL turn src s = .ok (.rt d) s' ∧ R d s'
  | [], s, h => .inl ⟨s, rfl, h⟩
  | x :: rest, s, h => by
    rcases step x rest s h with ⟨s', h1, h2⟩ | ⟨d, s', h1, h2⟩
    · rcases for_invR I R step rest s' h2 with ⟨s2, h3, h4⟩ | ⟨d, s2, h3, h4⟩
      · refine .inl ⟨s2, ?_, h4⟩
        rcases h1 with h1 | h1 <;> exact bind_k h1 h3
      · refine .inr ⟨d, s2, ?_, h4⟩
        rcases h1 with h1 | h1 <;> exact bind_k h1 h3
    · exact .inr ⟨d, s', bind_k h1 rfl, h2⟩
/-- the first turn that returns -/
theorem for_ret {turn : D → M Fl} (h : turn x s = .ok (.rt d) s1) : forL turn (x :: xs) s = .ok (.rt d) s1 := bind_k h rfl
theorem for_nx {turn : D → M Fl} {q : Rs Fl} (h : turn x s = .ok .nx s1) (h2 : forL turn xs s1 = q) : forL turn (x :: xs) s = q := bind_k h h2
theorem wipeA_k {ws : List Nat} {m : M Fl} {τ2 : List (Option D)} (h : m s = .ok fl ⟨τ2, S2⟩) (hw : wipeT ws τ2 = τ1) : wipeA ws m s = .ok fl ⟨τ1, S2⟩ := by unfold wipeA; rw [h]; dsimp only; rw [hw]
theorem wipeA_x {ws : List Nat} {m : M Fl} {c : Nat} {ns : List Str} (h : m s = .exn c ns xs s1) : wipeA ws m s = .exn c ns xs s1 := by unfold wipeA; rw [h]
/-- one turn: the target is bound, the suite is run, slots are emptied -/
theorem turn1 {ws : List Nat} {m : M Fl} {τ2 : List (Option D)} (h : m ⟨τ.set i (some x), S⟩ = .ok fl ⟨τ2, S2⟩) (hw : wipeT ws τ2 = τ1) : M.bind (bindT (.one i) x) (fun _ => wipeA ws m) ⟨τ, S⟩ = .ok fl ⟨τ1, S2⟩ := bind_k rfl (wipeA_k h hw)
theorem turn1x {ws : List Nat} {m : M Fl} {c : Nat} {ns : List Str} (h : m ⟨τ.set i (some x), S⟩ = .exn c ns xs s1) : M.bind (bindT (.one i) x) (fun _ => wipeA ws m) ⟨τ, S⟩ = .exn c ns xs s1 := bind_k rfl (wipeA_x h)
theorem turn2 {ws : List Nat} {m : M Fl} {τ2 : List (Option D)} (h : m ⟨(τ.set i (some x)).set j (some y), S⟩ = .ok fl ⟨τ2, S2⟩) (hw : wipeT ws τ2 = τ1) : M.bind (bindT (.tup [i, j]) (.tup [x, y])) (fun _ => wipeA ws m) ⟨τ, S⟩ = .ok fl ⟨τ1, S2⟩ := bind_k rfl (wipeA_k h hw)
theorem turn2x {ws : List Nat} {m : M Fl} {c : Nat} {ns : List Str} (h : m ⟨(τ.set i (some x)).set j (some y), S⟩ = .exn c ns xs s1) : M.bind (bindT (.tup [i, j]) (.tup [x, y])) (fun _ => wipeA ws m) ⟨τ, S⟩ = .exn c ns xs s1 := bind_k rfl (wipeA_x h)
/-- a loop whose turns change nothing -/
theorem for_same {α : Type} {turn : D → M Fl} {en : α → D} {s : MS} : ∀ {l : List α}, (∀ a ∈ l, turn (en a) s = .ok .nx s) → forL turn (l.map en) s = .ok .nx s
  | [], _ => rfl
  | a :: l, h => bind_k (h a List.mem_cons_self) (for_same fun b hb => h b (List.mem_cons_of_mem _ hb))
/-- the first of the turns that ends the loop -/
def lastFl : Rs Fl → Bool
  | .ok .nx _ => false
  | .ok .ct _ => false
  | .ok .bk _ => false
  | _ => true
theorem last_k {r : Rs Fl} {m : M Fl} {K : M Fl} (h : m s = r) (hl : lastFl r = true) : M.bind m (forK K) s = r := by
  unfold M.bind
  rw [h]
  cases r with
  | ok fl s' => cases fl <;> first | rfl | cases hl
  | exn c ns xs s' => rfl
  | bad => rfl
theorem for_find {α : Type} {turn : D → M Fl} {en : α → D} {s : MS} (p : α → Bool) (r : α → Rs Fl) (hr : ∀ a, lastFl (r a) = true) : ∀ {l : List α}, (∀ a ∈ l, turn (en a) s = cond (p a) (r a) (.ok .nx s)) → forL turn (l.map en) s = (match l.find? p with | some a => r a | none => .ok .nx s)
  | [], _ => rfl
  | a :: l, h => by
    have h1 := h a List.mem_cons_self
    have ih := for_find p r hr (l := l) fun b hb => h b (List.mem_cons_of_mem _ hb)
    cases hp : p a with
    | true =>
      rw [hp] at h1
      rw [List.find?_cons, hp]
      exact last_k h1 (hr a)
    | false =>
      rw [hp] at h1
      rw [List.find?_cons, hp]
      exact bind_k h1 ih
/-- the first turn that ends the loop; those before it change nothing -/
theorem for_hit {α : Type} {turn : D → M Fl} {en : α → D} {s : MS} {p : α → Bool} {r : Rs Fl} {a : α} : ∀ {l : List α}, l.find? p = some a → turn (en a) s = r → lastFl r = true → (∀ b ∈ l, p b = false → turn (en b) s = .ok .nx s) → forL turn (l.map en) s = r
  | [], hf, _, _, _ => by cases hf
  | b :: l, hf, ht, hl, hn => by
    cases hp : p b with
    | true =>
      rw [List.find?_cons, hp] at hf
      cases hf
      exact last_k ht hl
    | false =>
      rw [List.find?_cons, hp] at hf
      exact bind_k (hn b List.mem_cons_self hp) (for_hit hf ht hl fun c hc => hn c (List.mem_cons_of_mem _ hc))
theorem for_miss {α : Type} {turn : D → M Fl} {en : α → D} {s : MS} {p : α → Bool} {l : List α} (hf : l.find? p = none) (hn : ∀ b ∈ l, p b = false → turn (en b) s = .ok .nx s) : forL turn (l.map en) s = .ok .nx s :=
  for_same fun b hb => hn b hb (by have := List.find?_eq_none.mp hf b hb; simpa using this)
theorem turn_one {m : M Fl} {q : Rs Fl} (h : m ⟨τ.set i (some x), S⟩ = q) : M.bind (bindT (.one i) x) (fun _ => m) ⟨τ, S⟩ = q := bind_k rfl h
theorem turn_tup2 {m : M Fl} {q : Rs Fl} (h : m ⟨(τ.set i (some x)).set j (some y), S⟩ = q) : M.bind (bindT (.tup [i, j]) (.tup [x, y])) (fun _ => m) ⟨τ, S⟩ = q := bind_k rfl h
theorem whl_t {n : Nat} {cm : M Bool} {bm : M Fl} {q : Rs Fl} (h : cm s = .ok k s1) (hk : k = true) (hb : bm s1 = .ok .nx s2) (h2 : whlL cm bm n s2 = q) : whlL cm bm (n + 1) s = q := by subst hk; exact bind_k h (bind_k hb h2)
theorem whl_r {n : Nat} {cm : M Bool} {bm : M Fl} (h : cm s = .ok k s1) (hk : k = true) (hb : bm s1 = .ok (.rt d) s2) : whlL cm bm (n + 1) s = .ok (.rt d) s2 := by subst hk; exact bind_k h (bind_k hb rfl)
theorem whl_f {n : Nat} {cm : M Bool} {bm : M Fl} (h : cm s = .ok k s1) (hk : k = false) : whlL cm bm (n + 1) s = .ok .nx s1 := by subst hk; exact bind_k h rfl
/-! comprehensions -/
theorem wipe_idem (τ : List (Option D)) : ∀ own : List Nat, wipeT own (wipeT own τ) = wipeT own τ := by
  have key : ∀ (own : List Nat) (i : Nat), i ∈ own → i < τ.length → (wipeT own τ)[i]? = some none := by
    intro own
    induction own with
    | nil => intro i h; cases h
    | cons v vs ih =>
      intro i h hl
      unfold wipeT
      by_cases e : v = i
      · subst e; exact List.getElem?_set_self (by rw [wipeT_len]; exact hl)
      · rw [List.getElem?_set_ne e]
        exact ih i ((List.mem_cons.mp h).resolve_left fun z => e z.symm) hl
  have out : ∀ (own : List Nat) (σ : List (Option D)) (i : Nat), i ∉ own → (wipeT own σ)[i]? = σ[i]? := by
    intro own σ
    induction own with
    | nil => intro i _; rfl
    | cons v vs ih =>
      intro i h
      unfold wipeT
      simp only [List.mem_cons, not_or] at h
      rw [List.getElem?_set_ne fun z => h.1 z.symm]
      exact ih i h.2
  have key2 : ∀ (own : List Nat) (σ : List (Option D)) (i : Nat), i ∈ own → i < σ.length → (wipeT own σ)[i]? = some none := by
    intro own σ
    induction own with
    | nil => intro i h; cases h
    | cons v vs ih =>
      intro i h hl
      unfold wipeT
      by_cases e : v = i
      · subst e; exact List.getElem?_set_self (by rw [wipeT_len]; exact hl)
      · rw [List.getElem?_set_ne e]
        exact ih i ((List.mem_cons.mp h).resolve_left fun z => e z.symm) hl
  intro own
  apply List.ext_getElem?
  intro i
  by_cases h : i ∈ own
  · by_cases hl : i < τ.length
    · rw [key2 own _ i h (by rw [wipeT_len]; exact hl), key own i h hl]
    · rw [List.getElem?_eq_none (by rw [wipeT_len, wipeT_len]; omega), List.getElem?_eq_none (by rw [wipeT_len]; omega)]
  · rw [out own _ i h]
abbrev lcBody (tg : Gc.TG) (mt : M Bool) (me : M D) (x : D) : M (Option D) := M.bind (bindT tg x) fun _ => M.bind mt fun k => if k then M.bind me fun y => M.pure (some y) else M.pure none
/-- one turn: the slots of the comprehension are wiped, then the target is bound -/
theorem turn_k {own : List Nat} {tg : Gc.TG} {mt : M Bool} {me : M D} {g : Option D} (h : lcBody tg mt me x ⟨wipeT own τ, S⟩ = .ok g s1) : turnM own tg mt me x ⟨τ, S⟩ = .ok g s1 := by
  have key : M.bind (enter own tg x) (fun _ => M.bind mt fun k => if k then M.bind me fun y => M.pure (some y) else M.pure none) ⟨τ, S⟩ = .ok g s1 :=
    (congrFun (M.bind_assoc (fun s => Rs.ok () ⟨wipeT own s.τ, s.S⟩ : M Unit) (fun _ => bindT tg x) (fun _ => M.bind mt fun k => if k then M.bind me fun y => M.pure (some y) else M.pure none)) ⟨τ, S⟩).trans (bind_k rfl h)
  show noX _ ⟨τ, S⟩ = _
  unfold noX
  rw [key]
/-- a comprehension that keeps the cells -/
theorem comp_pure {own : List Nat} {tg : Gc.TG} {mt : M Bool} {me : M D} (g : D → Option D) {τ0 S : List (Option D)} : ∀ (src acc : List D) (τ : List (Option D)), wipeT own τ = wipeT own τ0 → acc.length + src.length ≤ sizeLine →
    (∀ x ∈ src, ∃ τ1, lcBody tg mt me x ⟨wipeT own τ0, S⟩ = .ok (g x) ⟨τ1, S⟩ ∧ wipeT own τ1 = wipeT own τ0) →
    ∃ τ2, compL (turnM own tg mt me) acc src ⟨τ, S⟩ = .ok (acc ++ src.filterMap g) ⟨τ2, S⟩ ∧ wipeT own τ2 = wipeT own τ0
  | [], acc, τ, hw, hl, h => ⟨τ, by rw [List.filterMap_nil, List.append_nil]; rfl, hw⟩
  | x :: src, acc, τ, hw, hl, h => by
    obtain ⟨τ1, h1, h2⟩ := h x List.mem_cons_self
    have ht : turnM own tg mt me x ⟨τ, S⟩ = .ok (g x) ⟨τ1, S⟩ := turn_k (by rw [hw]; exact h1)
    rw [List.length_cons] at hl
    cases hg : g x with
    | none =>
      obtain ⟨τ2, h3, h4⟩ := comp_pure g src acc τ1 h2 (by omega) fun y hy => h y (List.mem_cons_of_mem _ hy)
      refine ⟨τ2, ?_, h4⟩
      rw [List.filterMap_cons, hg]
      rw [hg] at ht
      exact bind_k ht h3
    | some y =>
      obtain ⟨τ2, h3, h4⟩ := comp_pure g src (acc ++ [y]) τ1 h2 (by rw [List.length_append, List.length_singleton]; omega) fun y hy => h y (List.mem_cons_of_mem _ hy)
      refine ⟨τ2, ?_, h4⟩
      rw [List.filterMap_cons, hg]
      rw [hg] at ht
      refine bind_k ht ?_
      dsimp only
      rw [if_pos (by omega), h3]
      simp
theorem back_wipe : ∀ {own : List Nat} {τ τ1 : List (Option D)}, wipeT own τ1 = wipeT own τ → backT τ own τ1 = τ := by
  intro own τ τ1 hw
  have hlen : τ1.length = τ.length := by rw [← wipeT_len τ1 own, hw, wipeT_len]
  have out : ∀ (own : List Nat) (σ : List (Option D)) (i : Nat), i ∉ own → (wipeT own σ)[i]? = σ[i]? := by
    intro own σ
    induction own with
    | nil => intro i _; rfl
    | cons v vs ih =>
      intro i h
      unfold wipeT
      simp only [List.mem_cons, not_or] at h
      rw [List.getElem?_set_ne fun z => h.1 z.symm]
      exact ih i h.2
  have blen : ∀ own : List Nat, (backT τ own τ1).length = τ1.length := by
    intro own
    induction own with
    | nil => rfl
    | cons v vs ih => unfold backT; rw [List.length_set, ih]
  have bo : ∀ (own : List Nat) (i : Nat), i ∉ own → (backT τ own τ1)[i]? = τ1[i]? := by
    intro own
    induction own with
    | nil => intro i _; rfl
    | cons v vs ih =>
      intro i h
      unfold backT
      simp only [List.mem_cons, not_or] at h
      rw [List.getElem?_set_ne fun z => h.1 z.symm]
      exact ih i h.2
  have bi : ∀ (own : List Nat) (i : Nat), i ∈ own → i < τ.length → (backT τ own τ1)[i]? = τ[i]? := by
    intro own
    induction own with
    | nil => intro i h; cases h
    | cons v vs ih =>
      intro i h hl
      unfold backT
      by_cases e : v = i
      · subst e
        rw [List.getElem?_set_self (by rw [blen, hlen]; exact hl), List.getElem?_eq_getElem hl]
        rfl
      · rw [List.getElem?_set_ne e]
        exact ih i ((List.mem_cons.mp h).resolve_left fun z => e z.symm) hl
  apply List.ext_getElem?
  intro i
  by_cases h : i ∈ own
  · by_cases hl : i < τ.length
    · exact bi own i h hl
    · rw [List.getElem?_eq_none (by rw [blen, hlen]; omega), List.getElem?_eq_none (by omega)]
  · rw [bo own i h, ← out own τ1 i h, hw, out own τ i h]
theorem e_lc {own : List Nat} {tg : Gc.TG} {w : Wk} {q : Rs D} (g : D → Option D) (h : evL P hc xc its 0 s = .ok ds ⟨τ, S⟩) (hw : walkD S w ds = some src) (hl : src.length ≤ sizeLine)
    (h1 : ∀ x ∈ src, ∃ τ1, lcBody tg (evTs P hc xc ifs) (ev P hc xc (md - 1) e) x ⟨wipeT own τ, S⟩ = .ok (g x) ⟨τ1, S⟩ ∧ wipeT own τ1 = wipeT own τ) (h2 : new md (.lst (src.filterMap g)) ⟨τ, S⟩ = q) : ev P hc xc md (.lc own tg w its ifs e) s = q := by
  obtain ⟨τ2, h3, h4⟩ := comp_pure g src [] τ rfl (by simpa using hl) h1
  refine bind_k (bind_k h (opS_k hw)) (bind_k (s1 := ⟨τ, S⟩) (a := src.filterMap g) ?_ h2)
  unfold block
  rw [h3]
  dsimp only
  rw [List.nil_append, back_wipe h4]
/-- a comprehension that changes the cells -/
theorem comp_inv {own : List Nat} {tg : Gc.TG} {mt : M Bool} {me : M D} {τ0 : List (Option D)} (I : List D → List D → List (Option D) → Prop)
    (step : ∀ x rest acc S, I (x :: rest) acc S → ∃ g τ1 S', lcBody tg mt me x ⟨wipeT own τ0, S⟩ = .ok g ⟨τ1, S'⟩ ∧ wipeT own τ1 = wipeT own τ0 ∧ (match g with | some y => acc.length < sizeLine ∧ I rest (acc ++ [y]) S' | none => I rest acc S')) :
    ∀ (src acc : List D) (τ S : List (Option D)), wipeT own τ = wipeT own τ0 → I src acc S → ∃ τ2 ys S', compL (turnM own tg mt me) acc src ⟨τ, S⟩ = .ok ys ⟨τ2, S'⟩ ∧ wipeT own τ2 = wipeT own τ0 ∧ I [] ys S'
  | [], acc, τ, S, hw, h => ⟨τ, acc, S, rfl, hw, h⟩
  | x :: src, acc, τ, S, hw, h => by
    obtain ⟨g, τ1, S', h1, h2, h3⟩ := step x src acc S h
    have ht : turnM own tg mt me x ⟨τ, S⟩ = .ok g ⟨τ1, S'⟩ := turn_k (by rw [hw]; exact h1)
    cases g with
    | none =>
      obtain ⟨τ2, ys, S2, h4, h5, h6⟩ := comp_inv I step src acc τ1 S' h2 h3
      exact ⟨τ2, ys, S2, bind_k ht h4, h5, h6⟩
    | some y =>
      obtain ⟨τ2, ys, S2, h4, h5, h6⟩ := comp_inv I step src (acc ++ [y]) τ1 S' h2 h3.2
      refine ⟨τ2, ys, S2, bind_k ht ?_, h5, h6⟩
      dsimp only
      rw [if_pos h3.1]
      exact h4
theorem e_lcI {own : List Nat} {tg : Gc.TG} {w : Wk} (I : List D → List D → List (Option D) → Prop) (h : evL P hc xc its 0 s = .ok ds ⟨τ, S⟩) (hw : walkD S w ds = some src) (h0 : I src [] S)
    (step : ∀ x rest acc S, I (x :: rest) acc S → ∃ g τ1 S', lcBody tg (evTs P hc xc ifs) (ev P hc xc (md - 1) e) x ⟨wipeT own τ, S⟩ = .ok g ⟨τ1, S'⟩ ∧ wipeT own τ1 = wipeT own τ ∧ (match g with | some y => acc.length < sizeLine ∧ I rest (acc ++ [y]) S' | none => I rest acc S')) :
    ∃ ys S', ev P hc xc md (.lc own tg w its ifs e) s = new md (.lst ys) ⟨τ, S'⟩ ∧ I [] ys S' := by
  obtain ⟨τ2, ys, S', h3, h4, h5⟩ := comp_inv I step src [] τ S rfl h0
  refine ⟨ys, S', bind_k (bind_k h (opS_k hw)) (bind_k (s1 := ⟨τ, S'⟩) (a := ys) ?_ rfl), h5⟩
  unfold block
  rw [h3]
  dsimp only
  rw [back_wipe h4]
theorem lcb {tg : Gc.TG} {mt : M Bool} {me : M D} (hb : bindT tg x s = .ok () s1) (ht : mt s1 = .ok k s2) (hk : k = true) (he : me s2 = .ok y s3) : lcBody tg mt me x s = .ok (some y) s3 := by subst hk; exact bind_k hb (bind_k ht (bind_k he rfl))
theorem lcb_no {tg : Gc.TG} {mt : M Bool} {me : M D} (hb : bindT tg x s = .ok () s1) (ht : mt s1 = .ok k s2) (hk : k = false) : lcBody tg mt me x s = .ok none s2 := by subst hk; exact bind_k hb (bind_k ht rfl)
theorem lcb_if {tg : Gc.TG} {mt : M Bool} {me : M D} (hb : bindT tg x s = .ok () s1) (ht : mt s1 = .ok k s2) (he : me s2 = .ok y s2) : lcBody tg mt me x s = .ok (cond k (some y) none) s2 := by
  cases k
  · exact lcb_no hb ht rfl
  · exact lcb hb ht rfl he
theorem s_nil : evTs P hc xc [] s = .ok true s := rfl
theorem s_one {q : Rs Bool} (h : evT P hc xc a s = q) : evTs P hc xc [a] s = q := h
/-! leaves -/
theorem mul_k {i j : Int} (h : mulOk i j = true) : binD S .Mult (.int i) (.int j) = some (.v (.int (i * j))) := by show (if mulOk i j then _ else _) = _; rw [if_pos h]
theorem mod_k {i j : Int} (h : 0 < j) : binD S .Mod (.int i) (.int j) = some (.v (.int (i % j))) := by show (if 0 < j then _ else _) = _; rw [if_pos h]
theorem fdv_k {i j : Int} (h : 0 < j) (h2 : j < 2 ^ 200) : binD S .FloorDiv (.int i) (.int j) = some (.v (.int (i / j))) := by
  show (if 0 < j ∧ j.natAbs.log2 < 9000 then _ else _) = _
  have h0 : j.natAbs ≠ 0 := by omega
  have h3 : j.natAbs < 2 ^ 200 := by
    have : (j.natAbs : Int) < 2 ^ 200 := by rw [Int.natAbs_of_nonneg (Int.le_of_lt h)]; exact h2
    exact_mod_cast this
  have h4 : j.natAbs.log2 < 9000 := (Nat.log2_lt h0).mpr (Nat.lt_of_lt_of_le h3 (Nat.pow_le_pow_right (by decide) (by decide)))
  rw [if_pos ⟨h, h4⟩]
theorem pow_k {i j : Int} (h : 0 ≤ j ∧ (Builtin.Int.intBits i : Int) * j ≤ 2 ^ 27) : binD S .Pow (.int i) (.int j) = some (.v (.int (i ^ j.toNat))) := by show (if _ then _ else _) = _; rw [if_pos h]
theorem eq_int {i j : Int} : cmpD S .Eq (.int i) (.int j) = some (decide (i = j)) := by
  have e : PyData.eqv (.int i) (.int j) = decide (i = j) := by
    rw [PyData.eqv]
    cases h : decide (i = j) with
    | true => have := of_decide_eq_true h; subst this; simp
    | false => have := of_decide_eq_false h; simpa using this
  show some (PyData.eqv (.int i) (.int j)) = _
  rw [e]
theorem ne_int {i j : Int} : cmpD S .NotEq (.int i) (.int j) = some (!decide (i = j)) := by
  show (cmpD S .Eq (.int i) (.int j)).map (!·) = _
  rw [eq_int]
  rfl
theorem sub_ref {n : Nat} {xs : List D} {w : Int} (h : S[n]? = some (some (.lst xs))) (h2 : atI xs w = some d) : subD S (.ref n) (.int w) = some d := by
  unfold subD de
  dsimp only
  rw [h]
  exact h2
theorem len_ref {n : Nat} {xs : List D} (h : S[n]? = some (some (.lst xs))) : bltD S .len [.ref n] = some (.v (.int xs.length)) := by
  unfold bltD b1 lenD de
  dsimp only
  rw [h]
  rfl
theorem put_ref {n : Nat} {xs : List D} {w : Int} (h : S[n]? = some (some (.lst xs))) (h2 : ixN xs.length w = some j) : putD S (.ref n) (.int w) d = some (S.set n (some (.lst (xs.set j d)))) := by
  unfold putD cellOf
  dsimp only
  rw [h]
  show ((intD (.int w)).bind fun k => (ixN xs.length k).map fun j => S.set n (some (.lst (xs.set j d)))) = _
  show ((ixN xs.length w).map fun j => S.set n (some (.lst (xs.set j d)))) = _
  rw [h2]
  rfl
theorem cellL_ref {n : Nat} {xs : List D} (h : S[n]? = some (some (.lst xs))) : cellL S (.ref n) = some (n, xs) := by
  unfold cellL cellOf
  dsimp only
  rw [h]
  rfl
theorem app_ref {n : Nat} {xs : List D} (h : S[n]? = some (some (.lst xs))) (hl : xs.length < sizeLine) : bmD S .append (.ref n) [d] = some (.v .non, S.set n (some (.lst (xs ++ [d])))) := by
  show (cellL S (.ref n)).bind _ = _
  rw [cellL_ref h]
  show (if xs.length < sizeLine then _ else _) = _
  rw [if_pos hl]
theorem seqIx {n : Nat} {w : Int} {m : Nat} (hw : 0 ≤ w) (hm : w.toNat = m) (hl : m < n) : seqIndex? w n = some m := by
  unfold seqIndex?
  have h1 : ¬ w < 0 := by omega
  rw [if_neg h1]
  have h2 : (decide (0 ≤ w) && decide (w < (n : Int))) = true := by simp; omega
  dsimp only
  rw [if_pos h2, hm]
theorem pop_ref {n : Nat} {xs : List D} {w : Int} {m : Nat} (h : S[n]? = some (some (.lst xs))) (hw : 0 ≤ w) (hm : w.toNat = m) (hx : xs[m]? = some d) (hl : xs.length < 2 ^ 62) : bmD S .popAt (.ref n) [.int w] = some (.v d, S.set n (some (.lst (xs.eraseIdx m)))) := by
  have hlt : m < xs.length := (List.getElem?_eq_some_iff.mp hx).1
  show (cellL S (.ref n)).bind _ = _
  rw [cellL_ref h]
  show (if -(2 ^ 63) ≤ w ∧ w < 2 ^ 63 then (seqIndex? w xs.length).bind fun k => (xs[k]?).map fun y => (Ov.v y, S.set n (some (.lst (xs.eraseIdx k)))) else none) = _
  rw [if_pos ⟨by omega, by omega⟩, seqIx hw hm hlt]
  show ((xs[m]?).map fun y => (Ov.v y, S.set n (some (.lst (xs.eraseIdx m))))) = _
  rw [hx]
  rfl
theorem lst_ref {n : Nat} {xs : List D} (h : S[n]? = some (some (.lst xs))) : lstOk S (.ref n) = some () := by
  unfold lstOk de
  dsimp only
  rw [h]
  rfl
end
end Gc

end

section
set_option Elab.async false
set_option linter.all false
set_option maxRecDepth 100000
set_option maxHeartbeats 1000000
/-! boxes that are drawn from; lists of data -/
namespace Gc
open PySem L2
/-- the box stands at b; at most n draws so far -/
def BoxAt (S : List (Option D)) (b n : Nat) : Prop := ∃ x y z : Int, S[b]? = some (some (.lst [.int x, .int y, .int z])) ∧ 0 ≤ x ∧ 0 ≤ y ∧ y ≤ n ∧ 0 ≤ z ∧ z ≤ 10 ^ 9
/-- S' comes of S by draws from b, and by new cells -/
structure Drw (b n : Nat) (S S' : List (Option D)) : Prop where
  box : BoxAt S' b n
  len : S.length ≤ S'.length
  same : ∀ i, i ≠ b → i < S.length → S'[i]? = S[i]?
theorem BoxAt.lt {S : List (Option D)} {b n : Nat} (h : BoxAt S b n) : b < S.length := by
  obtain ⟨x, y, z, h, _⟩ := h
  exact (List.getElem?_eq_some_iff.mp h).1
theorem BoxAt.le {S : List (Option D)} {b n m : Nat} (h : BoxAt S b n) (hm : n ≤ m) : BoxAt S b m := by
  obtain ⟨x, y, z, h1, h2, h3, h4, h5, h6⟩ := h
  exact ⟨x, y, z, h1, h2, h3, by omega, h5, h6⟩
theorem Drw.refl {S : List (Option D)} {b n : Nat} (h : BoxAt S b n) : Drw b n S S := ⟨h, Nat.le_refl _, fun _ _ _ => rfl⟩
theorem Drw.trans {S S1 S2 : List (Option D)} {b n m : Nat} (h : Drw b n S S1) (h2 : Drw b m S1 S2) : Drw b m S S2 :=
  ⟨h2.box, Nat.le_trans h.len h2.len, fun i hi hl => (h2.same i hi (Nat.lt_of_lt_of_le hl h.len)).trans (h.same i hi hl)⟩
theorem Drw.le {S S1 : List (Option D)} {b n m : Nat} (h : Drw b n S S1) (hm : n ≤ m) : Drw b m S S1 := ⟨h.box.le hm, h.len, h.same⟩
theorem BoxAt.app {S : List (Option D)} {b n : Nat} (h : BoxAt S b n) (T : List (Option D)) : BoxAt (S ++ T) b n := by
  have hl := h.lt
  obtain ⟨x, y, z, h1, h2⟩ := h
  exact ⟨x, y, z, by rw [List.getElem?_append_left hl]; exact h1, h2⟩
theorem Drw.app {S S1 : List (Option D)} {b n : Nat} (h : Drw b n S S1) (T : List (Option D)) : Drw b n S (S1 ++ T) :=
  ⟨h.box.app T, by rw [List.length_append]; have := h.len; omega, fun i hi hl => by rw [List.getElem?_append_left (Nat.lt_of_lt_of_le hl h.len)]; exact h.same i hi hl⟩
theorem BoxAt.set {S : List (Option D)} {b n i : Nat} {o : Option D} (h : BoxAt S b n) (hi : i ≠ b) : BoxAt (S.set i o) b n := by
  obtain ⟨x, y, z, h1, h2⟩ := h
  exact ⟨x, y, z, by rw [List.getElem?_set_ne hi]; exact h1, h2⟩
/-- a cell behind S is written -/
theorem Drw.set {S S1 : List (Option D)} {b n i : Nat} {o : Option D} (h : Drw b n S S1) (hi : i ≠ b) (hl : S.length ≤ i) : Drw b n S (S1.set i o) :=
  ⟨h.box.set hi, by rw [List.length_set]; exact h.len, fun j hj hl2 => by rw [List.getElem?_set_ne (by omega)]; exact h.same j hj hl2⟩

/-! ### bits -/
theorem mul_small {i j : Int} (hi : -(2 ^ 250) ≤ i ∧ i ≤ 2 ^ 250) (hj : -(2 ^ 250) ≤ j ∧ j ≤ 2 ^ 250) : mulOk i j = true := by
  have key : ∀ i : Int, (-(2 ^ 250) ≤ i ∧ i ≤ 2 ^ 250) → i.natAbs.log2 ≤ 250 := fun i hi => by
    by_cases h0 : i.natAbs = 0
    · rw [h0]; decide
    · have h1 : i.natAbs < 2 ^ 251 := by
        have : i.natAbs ≤ 2 ^ 250 := by omega
        exact Nat.lt_of_le_of_lt this (by decide)
      have := (Nat.log2_lt h0).mpr h1
      omega
  have a := key i hi
  have b := key j hj
  unfold mulOk
  exact decide_eq_true (by omega)
theorem bits_small {i : Int} (h : i.natAbs < 2 ^ 250) : Builtin.Int.intBits i ≤ 250 := by
  unfold Builtin.Int.intBits
  split
  · decide
  · rename_i h0
    have h0 : i.natAbs ≠ 0 := by
      intro z
      apply h0
      have : i = 0 := by omega
      rw [this]; rfl
    have := (Nat.log2_lt h0).mpr h
    omega
theorem fin_v {md : Nat} {d : D} {s : MS} : fin md (.v d) s = .ok d s := rfl
theorem fin_l {xs : List D} {s : MS} : fin 0 (.l xs) s = .ok (.lst xs) s := rfl
theorem fin_l1 {md : Nat} {xs : List D} {τ S : List (Option D)} : fin (md + 1) (.l xs) ⟨τ, S⟩ = .ok (.ref S.length) ⟨τ, S ++ [some (.lst xs)]⟩ := rfl
theorem new_0 {d : D} {s : MS} : new 0 d s = .ok d s := rfl
theorem new_1 {md : Nat} {d : D} {τ S : List (Option D)} : new (md + 1) d ⟨τ, S⟩ = .ok (.ref S.length) ⟨τ, S ++ [some d]⟩ := rfl
theorem pow_c {S : List (Option D)} : binD S .Pow (.int 10) (.int 18) = some (.v (.int 1000000000000000000)) := pow_k (i := 10) (j := 18) (by decide)
theorem pow_3 {S : List (Option D)} {i : Int} (h : 0 ≤ i) (h2 : i < 2 ^ 120) : binD S .Pow (.int i) (.int 3) = some (.v (.int (i ^ 3))) := by
  have hb := bits_small (i := i) (by omega)
  exact pow_k ⟨by omega, by omega⟩
theorem add_k {S : List (Option D)} {i j : Int} : binD S .Add (.int i) (.int j) = some (.v (.int (i + j))) := rfl
theorem sub_k {S : List (Option D)} {i j : Int} : binD S .Sub (.int i) (.int j) = some (.v (.int (i - j))) := rfl
theorem mulS {S : List (Option D)} {i j : Int} (h1 : -(2 ^ 250) ≤ i) (h2 : i ≤ 2 ^ 250) (h3 : -(2 ^ 250) ≤ j) (h4 : j ≤ 2 ^ 250) : binD S .Mult (.int i) (.int j) = some (.v (.int (i * j))) := mul_k (mul_small ⟨h1, h2⟩ ⟨h3, h4⟩)
end Gc

end

section
set_option Elab.async false
set_option linter.all false
set_option maxRecDepth 100000
set_option maxHeartbeats 1000000
/-! lists of data -/
namespace Gc
open PySem L2
/-- data that lie as trees, and whose == is equality -/
class Enc (α : Type) [DecidableEq α] where
  en : α → D
  py : α → PyData
  dep : Nat
  topy : ∀ a, toPy (en a) = some (py a)
  lay : ∀ a, (py a).canLay0 = true
  depth : ∀ a, (py a).depth ≤ dep
  eqv : ∀ a b, PyData.eqv (py a) (py b) = decide (a = b)
  nref : ∀ a S, de S (en a) = some (en a)
open Enc (en)
instance : Enc Int where
  en := .int
  py := .int
  dep := 0
  topy := fun _ => by simp only [toPy]
  lay := fun _ => by simp only [PyData.canLay0]
  depth := fun _ => by simp only [PyData.depth]; omega
  eqv := fun a b => by
    rw [PyData.eqv]
    by_cases h : a = b
    · subst h; simp
    · simp [h]
  nref := fun _ _ => rfl
theorem toPys_map {α : Type} [DecidableEq α] [Enc α] : ∀ l : List α, toPys (l.map en) = some (l.map Enc.py)
  | [] => rfl
  | a :: l => by simp only [List.map_cons, toPys, Enc.topy, toPys_map l, Option.bind_some, Option.map_some]
theorem lays_map {α : Type} [DecidableEq α] [Enc α] : ∀ l : List α, PyData.canLayAll0 (l.map Enc.py) = true
  | [] => by simp only [List.map_nil, PyData.canLayAll0]
  | a :: l => by simp only [List.map_cons, PyData.canLayAll0, Enc.lay, lays_map l, Bool.and_self]
theorem depths_map {α : Type} [DecidableEq α] [Enc α] : ∀ l : List α, PyData.depthAll (l.map Enc.py) ≤ Enc.dep α
  | [] => by simp only [List.map_nil, PyData.depthAll]; omega
  | a :: l => by
    have h1 := Enc.depth a
    have h2 := depths_map l
    simp only [List.map_cons, PyData.depthAll]
    omega
theorem eqvs_map {α : Type} [DecidableEq α] [Enc α] : ∀ l m : List α, PyData.eqvAll (l.map Enc.py) (m.map Enc.py) = decide (l = m)
  | [], [] => by simp [PyData.eqvAll]
  | [], b :: m => by simp [PyData.eqvAll]
  | a :: l, [] => by simp [PyData.eqvAll]
  | a :: l, b :: m => by simp [PyData.eqvAll, Enc.eqv, eqvs_map l m]
instance {α : Type} [DecidableEq α] [Enc α] : Enc (List α) where
  en := fun l => .lst (l.map en)
  py := fun l => .list (l.map Enc.py)
  dep := Enc.dep α + 1
  topy := fun l => by simp only [toPy, toPys_map, Option.map_some]
  lay := fun l => by simp only [PyData.canLay0, lays_map]
  depth := fun l => by have := depths_map l; simp only [PyData.depth]; omega
  eqv := fun l m => by rw [PyData.eqv]; exact eqvs_map l m
  nref := fun _ _ => rfl
instance {α β : Type} [DecidableEq α] [DecidableEq β] [Enc α] [Enc β] : Enc (α × β) where
  en := fun p => .tup [en p.1, en p.2]
  py := fun p => .tuple [Enc.py p.1, Enc.py p.2]
  dep := max (Enc.dep α) (Enc.dep β) + 1
  topy := fun l => by simp only [toPy, toPys, Enc.topy, Option.bind_some, Option.map_some]
  lay := fun l => by simp only [PyData.canLay0, PyData.canLayAll0, Enc.lay, Bool.and_self]
  depth := fun l => by
    have h1 := Enc.depth l.1
    have h2 := Enc.depth l.2
    simp only [PyData.depth, PyData.depthAll]
    omega
  eqv := fun l m => by
    rw [PyData.eqv]
    simp only [PyData.eqvAll, Enc.eqv, Bool.and_true]
    by_cases h1 : l.1 = m.1 <;> by_cases h2 : l.2 = m.2 <;> simp [Prod.ext_iff, h1, h2]
  nref := fun _ _ => rfl
section
variable {α : Type} [DecidableEq α] [Enc α] {S : List (Option D)}
theorem shaped_en (h : Enc.dep α ≤ 60) (a : α) : SeqAt.shaped (Enc.py a) = true := by
  have := Enc.depth a
  unfold SeqAt.shaped
  rw [Enc.lay, decide_eq_true (by omega)]
  rfl
theorem shaped_ens (h : Enc.dep α ≤ 60) (l : List α) : SeqAt.shaped (.list (l.map Enc.py)) = true := by
  have := depths_map l
  unfold SeqAt.shaped
  simp only [PyData.canLay0, lays_map, PyData.depth, Bool.true_and]
  exact decide_eq_true (by omega)
theorem shaped_ent (h : Enc.dep α ≤ 60) (l : List α) : SeqAt.shaped (.tuple (l.map Enc.py)) = true := by
  have := depths_map l
  unfold SeqAt.shaped
  simp only [PyData.canLay0, lays_map, PyData.depth, Bool.true_and]
  exact decide_eq_true (by omega)
theorem eqPy_en (h : Enc.dep α ≤ 60) (a b : α) : eqPy S (en a) (en b) = some (decide (a = b)) := by
  unfold eqPy
  simp only [Enc.nref, Option.bind_some, Enc.topy, shaped_en h, Bool.and_self, if_true, Enc.eqv]
theorem eq_en (h : Enc.dep α ≤ 60) (a b : α) : cmpD S .Eq (en a) (en b) = some (decide (a = b)) := by
  show eqT S (en a) (en b) = _
  unfold eqT
  rw [eqPy_en h]
theorem ne_en (h : Enc.dep α ≤ 60) (a b : α) : cmpD S .NotEq (en a) (en b) = some (!decide (a = b)) := by
  show (eqT S (en a) (en b)).map (!·) = _
  unfold eqT
  rw [eqPy_en h]
  rfl
theorem any_en (l : List α) (a : α) : ((l.map Enc.py).any fun z => PyData.eqv z (Enc.py a)) = decide (a ∈ l) := by
  induction l with
  | nil => simp
  | cons b l ih =>
    rw [List.map_cons, List.any_cons, ih, Enc.eqv]
    by_cases h1 : a = b
    · subst h1; simp
    · have : ¬ b = a := fun z => h1 z.symm
      simp [h1, this]
theorem in_en (h : Enc.dep α ≤ 60) (a : α) (l : List α) : cmpD S .In (en a) (.lst (l.map en)) = some (decide (a ∈ l)) := by
  show cmpD.inD S (en a) (.lst (l.map en)) = _
  unfold cmpD.inD
  rw [show de S (.lst (l.map en)) = some (.lst (l.map en)) from rfl]
  simp only [Enc.nref, Option.bind_some, Enc.topy, toPys_map, shaped_en h, shaped_ens h, Bool.and_self, if_true, any_en]
theorem in_ent (h : Enc.dep α ≤ 60) (a : α) (l : List α) : cmpD S .In (en a) (.tup (l.map en)) = some (decide (a ∈ l)) := by
  show cmpD.inD S (en a) (.tup (l.map en)) = _
  unfold cmpD.inD
  rw [show de S (.tup (l.map en)) = some (.tup (l.map en)) from rfl]
  simp only [Enc.nref, Option.bind_some, Enc.topy, toPys_map, shaped_en h, shaped_ent h, Bool.and_self, if_true, any_en]
theorem notin_en (h : Enc.dep α ≤ 60) (a : α) (l : List α) : cmpD S .NotIn (en a) (.lst (l.map en)) = some (!decide (a ∈ l)) := by
  show (cmpD S .In (en a) (.lst (l.map en))).map (!·) = _
  rw [in_en h]; rfl
theorem notin_ent (h : Enc.dep α ≤ 60) (a : α) (l : List α) : cmpD S .NotIn (en a) (.tup (l.map en)) = some (!decide (a ∈ l)) := by
  show (cmpD S .In (en a) (.tup (l.map en))).map (!·) = _
  rw [in_ent h]; rfl
end
section
variable {S : List (Option D)} {i : Int} {xs : List Int} {n : Nat}
theorem in_int : cmpD S .In (.int i) (.lst (xs.map .int)) = some (decide (i ∈ xs)) := in_en (α := Int) (by decide) i xs
theorem notin_int : cmpD S .NotIn (.int i) (.lst (xs.map .int)) = some (!decide (i ∈ xs)) := notin_en (α := Int) (by decide) i xs
theorem notin_take : cmpD S .NotIn (.int i) (.lst ((xs.map .int).take n)) = some (!decide (i ∈ xs.take n)) := by rw [← List.map_take]; exact notin_int
theorem notin_takeT : cmpD S .NotIn (.int i) (.tup ((xs.map .int).take n)) = some (!decide (i ∈ xs.take n)) := by rw [← List.map_take]; exact notin_ent (α := Int) (by decide) i _
end
theorem mul_bd {a b A B : Int} (h1 : -A ≤ a) (h2 : a ≤ A) (h3 : -B ≤ b) (h4 : b ≤ B) : -(A * B) ≤ a * b ∧ a * b ≤ A * B := by
  have ha : (a.natAbs : Int) ≤ A := by omega
  have hb : (b.natAbs : Int) ≤ B := by omega
  have hm : ((a * b).natAbs : Int) ≤ A * B := by
    rw [Int.natAbs_mul, Int.natCast_mul]
    exact Int.mul_le_mul ha hb (by omega) (by omega)
  omega
/-- the value at a place -/
def pt (xs : List Int) (i : Int) : Int := xs.getD i.toNat 0
theorem sub_pt {S : List (Option D)} {xs : List Int} {i : Int} (h : 0 ≤ i) (h2 : i < xs.length) : subD S (.lst (xs.map .int)) (.int i) = some (.int (pt xs i)) := by
  have hl : i.toNat < xs.length := by omega
  show atI (xs.map D.int) i = _
  unfold atI ixN pt
  rw [if_pos h, if_pos (by rw [List.length_map]; exact h2)]
  simp [hl]
theorem pt_mem {xs : List Int} {i : Int} (h : 0 ≤ i) (h2 : i < xs.length) : pt xs i ∈ xs := by
  have hl : i.toNat < xs.length := by omega
  unfold pt
  rw [List.getD_eq_getElem?_getD, List.getElem?_eq_getElem hl]
  exact List.getElem_mem hl
/-! ### places -/
theorem atI_nat {α : Type} {xs : List α} {i : Int} {n : Nat} {a : α} (h : i = n) (ha : xs[n]? = some a) : atI xs i = some a := by
  have hl := (List.getElem?_eq_some_iff.mp ha).1
  unfold atI ixN
  rw [if_pos (by omega), if_pos (by omega)]
  subst h
  simpa using ha
theorem sub_lst {S : List (Option D)} {xs : List D} {i : Int} {d : D} (h : atI xs i = some d) : subD S (.lst xs) (.int i) = some d := h
theorem sub_tup {S : List (Option D)} {xs : List D} {i : Int} {d : D} (h : atI xs i = some d) : subD S (.tup xs) (.int i) = some d := h
theorem atI_map {α β : Type} {f : α → β} {xs : List α} {i : Int} {n : Nat} {a : α} (h : i = n) (ha : xs[n]? = some a) : atI (xs.map f) i = some (f a) := atI_nat h (by rw [List.getElem?_map, ha]; rfl)
theorem len_lst {S : List (Option D)} {xs : List D} : bltD S .len [.lst xs] = some (.v (.int xs.length)) := rfl
theorem len_tup {S : List (Option D)} {xs : List D} : bltD S .len [.tup xs] = some (.v (.int xs.length)) := rfl
theorem len_map {α : Type} {f : α → D} {S : List (Option D)} {xs : List α} : bltD S .len [.lst (xs.map f)] = some (.v (.int xs.length)) := by rw [len_lst, List.length_map]
theorem len_mapt {α : Type} {f : α → D} {S : List (Option D)} {xs : List α} : bltD S .len [.tup (xs.map f)] = some (.v (.int xs.length)) := by rw [len_tup, List.length_map]
theorem asBools_map {α : Type} (f : α → Bool) : ∀ l : List α, asBools (l.map fun a => .bl (f a)) = some (l.map f)
  | [] => rfl
  | a :: l => by
    show (asBools (l.map fun a => .bl (f a))).map (f a :: ·) = _
    rw [asBools_map f l]; rfl
theorem all_map {α : Type} {S : List (Option D)} (f : α → Bool) (l : List α) : bltD S .all [.lst (l.map fun a => .bl (f a))] = some (.v (.bl (l.all f))) := by
  show (asBools (l.map fun a => .bl (f a))).map (fun bs => Ov.v (.bl (bs.all id))) = _
  rw [asBools_map]
  show some (Ov.v (.bl ((l.map f).all id))) = _
  rw [List.all_map]
  rfl
theorem any_map {α : Type} {S : List (Option D)} (f : α → Bool) (l : List α) : bltD S .any [.lst (l.map fun a => .bl (f a))] = some (.v (.bl (l.any f))) := by
  show (asBools (l.map fun a => .bl (f a))).map (fun bs => Ov.v (.bl (bs.any id))) = _
  rw [asBools_map]
  show some (Ov.v (.bl ((l.map f).any id))) = _
  rw [List.any_map]
  rfl
theorem asInts_map : ∀ l : List Int, asInts (l.map D.int) = some l
  | [] => rfl
  | a :: l => by
    show (asInts (l.map D.int)).map (a :: ·) = _
    rw [asInts_map l]; rfl
theorem sum_map {S : List (Option D)} (l : List Int) : bltD S .sum [.lst (l.map D.int)] = some (.v (.int l.sum)) := by
  show (asInts (l.map D.int)).map (fun ns => Ov.v (.int ns.sum)) = _
  rw [asInts_map]
  rfl
theorem cut_to {xs : List D} {n : Nat} : cutD xs none (some (n : Int)) = xs.take n := by
  unfold cutD
  rw [HT.sIx_none, HT.sIx_nat]
  simp only [List.drop_zero, Nat.sub_zero]
  by_cases h : n ≤ xs.length
  · rw [Nat.min_eq_left h]
  · rw [Nat.min_eq_right (by omega), List.take_length, List.take_of_length_le (by omega)]
theorem cut_from {xs : List D} {n : Nat} : cutD xs (some (n : Int)) none = xs.drop n := by
  unfold cutD
  rw [HT.sIx_none, HT.sIx_nat]
  by_cases h : n ≤ xs.length
  · rw [Nat.min_eq_left h, List.take_of_length_le (by rw [List.length_drop]; omega)]
  · rw [Nat.min_eq_right (by omega), List.drop_length, List.drop_of_length_le (by omega)]
    simp
theorem sl_to {S : List (Option D)} {xs : List D} {n : Nat} : slD S (.lst xs) none (some (n : Int)) = some (.l (xs.take n)) := by
  show some (Ov.l (cutD xs none (some (n : Int)))) = _
  rw [cut_to]
theorem sl_from {S : List (Option D)} {xs : List D} {n : Nat} : slD S (.lst xs) (some (n : Int)) none = some (.l (xs.drop n)) := by
  show some (Ov.l (cutD xs (some (n : Int)) none)) = _
  rw [cut_from]
theorem slt_to {S : List (Option D)} {xs : List D} {n : Nat} (h : n < xs.length) : slD S (.tup xs) none (some (n : Int)) = some (.v (.tup (xs.take n))) := by
  show (if HT.sIx xs.length 0 none = 0 ∧ HT.sIx xs.length xs.length (some (n : Int)) = xs.length then none else some (Ov.v (.tup (cutD xs none (some (n : Int)))))) = _
  rw [if_neg (by rw [HT.sIx_nat]; omega), cut_to]
theorem fld_last {P : Pg} {S : List (Option D)} {ns ns' : List Str} {xs xs' : List D} {c : Nat} {f : Str} {d : D} {q : Cl} (hp : plainCl P c = true) (hl : decide (ns.length < 30) = true) (hq : P.cl c = some q) (hf : f ∈ q.fields) (h : putFD f d ns xs = some (ns', xs')) : fldD P (S ++ [some (.obj c ns xs)]) (.ref S.length) f d = some (S ++ [some (.obj c ns' xs')]) := by
  unfold fldD cellOf
  have e : (S ++ [some (D.obj c ns xs)])[S.length]? = some (some (.obj c ns xs)) := by simp
  dsimp only
  rw [e]
  show (if plainCl P c && decide (ns.length < 30) then (P.cl c).bind fun q => if f ∈ q.fields then (putFD f d ns xs).map fun z => (S ++ [some (D.obj c ns xs)]).set S.length (some (.obj c z.1 z.2)) else none else none) = _
  rw [if_pos (by rw [hp, hl]; rfl), hq]
  show (if f ∈ q.fields then (putFD f d ns xs).map fun z => (S ++ [some (D.obj c ns xs)]).set S.length (some (.obj c z.1 z.2)) else none) = _
  rw [if_pos hf, h]
  simp
theorem zip_lt {α : Type} {xs : List α} {a : α × Nat} (h : a ∈ xs.zipIdx) : a.2 < xs.length := by
  have := List.mem_zipIdx_iff_getElem?.mp h
  exact (List.getElem?_eq_some_iff.mp this).1
theorem slt_map {α : Type} {f : α → D} {S : List (Option D)} {xs : List α} {a : α × Nat} (h : a ∈ xs.zipIdx) : slD S (.tup (xs.map f)) none (some (a.2 : Int)) = some (.v (.tup ((xs.map f).take a.2))) := slt_to (by rw [List.length_map]; exact zip_lt h)
/-- different items -/
def dist {α : Type} [DecidableEq α] (xs : List α) : Bool := xs.zipIdx.all fun p => !decide (p.1 ∈ xs.take p.2)
theorem dist_iff {α : Type} [DecidableEq α] (xs : List α) : dist xs = true ↔ xs.Nodup := by
  unfold dist List.Nodup
  rw [List.all_eq_true, List.pairwise_iff_getElem]
  constructor
  · intro h i j hi hj hij e
    have := h (xs[j], j) (by rw [List.mem_zipIdx_iff_getElem?]; simp [hj])
    simp only [Bool.not_eq_true', decide_eq_false_iff_not] at this
    apply this
    rw [← e]
    exact List.mem_take_iff_getElem.mpr ⟨i, by omega, rfl⟩
  · rintro h ⟨a, k⟩ hp
    rw [List.mem_zipIdx_iff_getElem?] at hp
    simp only [Bool.not_eq_true', decide_eq_false_iff_not]
    intro hm
    obtain ⟨i, hi, e⟩ := List.mem_take_iff_getElem.mp hm
    have hk : k < xs.length := (List.getElem?_eq_some_iff.mp hp).1
    have hp2 : xs[k] = a := (List.getElem?_eq_some_iff.mp hp).2
    exact h i k (by omega) hk (by omega) (by rw [hp2]; exact e)
theorem add_lst {S : List (Option D)} {xs ys : List D} (h : xs.length + ys.length ≤ sizeLine) : binD S .Add (.lst xs) (.lst ys) = some (.l (xs ++ ys)) := by
  show (if xs.length + ys.length ≤ sizeLine then some (Ov.l (xs ++ ys)) else none) = _
  rw [if_pos h]
theorem last_at {S : List (Option D)} {o : Option D} : (S ++ [o])[S.length]? = some o := by simp
theorem app_last {S : List (Option D)} {xs : List D} {d : D} (hl : xs.length < sizeLine) : bmD (S ++ [some (.lst xs)]) .append (.ref S.length) [d] = some (.v .non, S ++ [some (.lst (xs ++ [d]))]) := by
  rw [app_ref last_at hl]
  simp
theorem lst_last {S : List (Option D)} {xs : List D} : lstOk (S ++ [some (.lst xs)]) (.ref S.length) = some () := lst_ref last_at
theorem e_frzL {P : Pg} {hc : Hc} {xc : List Str × List D} {md i : Nat} {τ S : List (Option D)} {d : D} (h : τ[i]? = some (some (.ref S.length))) : ev P hc xc md (.var i true) ⟨τ, S ++ [some d]⟩ = .ok d ⟨τ.set i (some d), S ++ [none]⟩ := by
  rw [e_frz h last_at]
  simp
theorem lrange_k {S : List (Option D)} {j : Int} (h : 0 ≤ j) (h2 : j < 1000) : bltD S .listRange [.int j] = some (.l (((List.range j.toNat).map fun k : Nat => (k : Int)).map .int)) := by
  unfold bltD b1 int1
  simp only
  rw [if_pos ⟨by omega, by omega, by rw [sizeLine_eq]; omega⟩, List.map_map]
  rfl
theorem erase_perm {α : Type} {rs : List α} {m : Nat} {v : α} (h : rs[m]? = some v) (ps : List α) : List.Perm (ps ++ rs) ((ps ++ [v]) ++ rs.eraseIdx m) := by
  have hm : m < rs.length := (List.getElem?_eq_some_iff.mp h).1
  have e : rs = rs.take m ++ v :: rs.drop (m + 1) := by
    have := (List.getElem?_eq_some_iff.mp h).2
    conv => lhs; rw [← List.take_append_drop m rs, List.drop_eq_getElem_cons hm, this]
  rw [List.eraseIdx_eq_take_drop_succ, List.append_assoc]
  refine List.Perm.append_left ps ?_
  conv => lhs; rw [e]
  exact List.perm_middle
/-! ### comprehensions -/
section
variable {P : Pg} {hc : Hc} {xc : List Str × List D} {e : TX} {its ifs : List TX} {md : Nat} {τ S : List (Option D)} {s : MS} {ds : List D}
theorem e_lcmap {α : Type} {own : List Nat} {tg : Gc.TG} {w : Wk} {q : Rs D} {l : List α} {en : α → D} (f : α → D) (h : evL P hc xc its 0 s = .ok ds ⟨τ, S⟩) (hw : walkD S w ds = some (l.map en)) (hl : l.length ≤ sizeLine)
    (h1 : ∀ a ∈ l, ∃ τ1, lcBody tg (evTs P hc xc ifs) (ev P hc xc (md - 1) e) (en a) ⟨wipeT own τ, S⟩ = .ok (some (f a)) ⟨τ1, S⟩ ∧ wipeT own τ1 = wipeT own τ) (h2 : new md (.lst (l.map f)) ⟨τ, S⟩ = q) : ev P hc xc md (.lc own tg w its ifs e) s = q := by
  have hc2 : ∀ (src : List α) (acc : List D) (τ' : List (Option D)), (∀ a ∈ src, a ∈ l) → wipeT own τ' = wipeT own τ → acc.length + src.length ≤ sizeLine → ∃ τ2, compL (turnM own tg (evTs P hc xc ifs) (ev P hc xc (md - 1) e)) acc (src.map en) ⟨τ', S⟩ = .ok (acc ++ src.map f) ⟨τ2, S⟩ ∧ wipeT own τ2 = wipeT own τ := by
    intro src
    induction src with
    | nil => intro acc τ' _ hw _; exact ⟨τ', by simp only [List.map_nil, List.append_nil]; rfl, hw⟩
    | cons a src ih =>
      intro acc τ' hm hw hlen
      obtain ⟨τ1, g1, g2⟩ := h1 a (hm a List.mem_cons_self)
      have ht := turn_k (own := own) (τ := τ') (by rw [hw]; exact g1)
      rw [List.length_cons] at hlen
      obtain ⟨τ2, g3, g4⟩ := ih (acc ++ [f a]) τ1 (fun b hb => hm b (List.mem_cons_of_mem _ hb)) g2 (by rw [List.length_append, List.length_singleton]; omega)
      refine ⟨τ2, bind_k ht ?_, g4⟩
      dsimp only
      rw [if_pos (by omega)]
      rw [g3]
      simp
  obtain ⟨τ2, h3, h4⟩ := hc2 l [] τ (fun _ h => h) rfl (by simpa using hl)
  refine bind_k (bind_k h (opS_k hw)) (bind_k (s1 := ⟨τ, S⟩) (a := l.map f) ?_ h2)
  unfold block
  rw [h3]
  dsimp only
  rw [List.nil_append, back_wipe h4]
theorem e_lcfm {α : Type} {own : List Nat} {tg : Gc.TG} {w : Wk} {q : Rs D} {l : List α} {en : α → D} (f : α → Option D) (h : evL P hc xc its 0 s = .ok ds ⟨τ, S⟩) (hw : walkD S w ds = some (l.map en)) (hl : l.length ≤ sizeLine)
    (h1 : ∀ a ∈ l, ∃ τ1, lcBody tg (evTs P hc xc ifs) (ev P hc xc (md - 1) e) (en a) ⟨wipeT own τ, S⟩ = .ok (f a) ⟨τ1, S⟩ ∧ wipeT own τ1 = wipeT own τ) (h2 : new md (.lst (l.filterMap f)) ⟨τ, S⟩ = q) : ev P hc xc md (.lc own tg w its ifs e) s = q := by
  have hc2 : ∀ (src : List α) (acc : List D) (τ' : List (Option D)), (∀ a ∈ src, a ∈ l) → wipeT own τ' = wipeT own τ → acc.length + src.length ≤ sizeLine → ∃ τ2, compL (turnM own tg (evTs P hc xc ifs) (ev P hc xc (md - 1) e)) acc (src.map en) ⟨τ', S⟩ = .ok (acc ++ src.filterMap f) ⟨τ2, S⟩ ∧ wipeT own τ2 = wipeT own τ := by
    intro src
    induction src with
    | nil => intro acc τ' _ hw _; exact ⟨τ', by simp only [List.map_nil, List.filterMap_nil, List.append_nil]; rfl, hw⟩
    | cons a src ih =>
      intro acc τ' hm hw hlen
      obtain ⟨τ1, g1, g2⟩ := h1 a (hm a List.mem_cons_self)
      have ht := turn_k (own := own) (τ := τ') (by rw [hw]; exact g1)
      rw [List.length_cons] at hlen
      cases hf : f a with
      | none =>
        obtain ⟨τ2, g3, g4⟩ := ih acc τ1 (fun b hb => hm b (List.mem_cons_of_mem _ hb)) g2 (by omega)
        rw [hf] at ht
        exact ⟨τ2, by rw [List.filterMap_cons, hf]; exact bind_k ht g3, g4⟩
      | some y =>
        obtain ⟨τ2, g3, g4⟩ := ih (acc ++ [y]) τ1 (fun b hb => hm b (List.mem_cons_of_mem _ hb)) g2 (by rw [List.length_append, List.length_singleton]; omega)
        rw [hf] at ht
        refine ⟨τ2, bind_k ht ?_, g4⟩
        dsimp only
        rw [if_pos (by omega), g3, List.filterMap_cons, hf]
        simp
  obtain ⟨τ2, h3, h4⟩ := hc2 l [] τ (fun _ h => h) rfl (by simpa using hl)
  refine bind_k (bind_k h (opS_k hw)) (bind_k (s1 := ⟨τ, S⟩) (a := l.filterMap f) ?_ h2)
  unfold block
  rw [h3]
  dsimp only
  rw [List.nil_append, back_wipe h4]
end
section
variable {P : Pg} {hc : Hc} {xc : List Str × List D} {c : TX} {τ τ1 S : List (Option D)} {own : List Nat} {i j : Nat} {x y z : D} {k : Bool} {me : M D}
theorem lcb1 (h : me ⟨(wipeT own τ).set i (some x), S⟩ = .ok y ⟨τ1, S⟩) (hw : wipeT own τ1 = wipeT own τ) : ∃ τ1, lcBody (.one i) (evTs P hc xc []) me x ⟨wipeT own τ, S⟩ = .ok (some y) ⟨τ1, S⟩ ∧ wipeT own τ1 = wipeT own τ := ⟨τ1, lcb rfl s_nil rfl h, hw⟩
theorem lcb1f (ht : evT P hc xc c ⟨(wipeT own τ).set i (some x), S⟩ = .ok k ⟨τ1, S⟩) (h : me ⟨τ1, S⟩ = .ok y ⟨τ1, S⟩) (hw : wipeT own τ1 = wipeT own τ) : ∃ τ1, lcBody (.one i) (evTs P hc xc [c]) me x ⟨wipeT own τ, S⟩ = .ok (cond k (some y) none) ⟨τ1, S⟩ ∧ wipeT own τ1 = wipeT own τ := ⟨τ1, lcb_if rfl ht h, hw⟩
theorem lcb2 (h : me ⟨((wipeT own τ).set i (some x)).set j (some z), S⟩ = .ok y ⟨τ1, S⟩) (hw : wipeT own τ1 = wipeT own τ) : ∃ τ1, lcBody (.tup [i, j]) (evTs P hc xc []) me (.tup [x, z]) ⟨wipeT own τ, S⟩ = .ok (some y) ⟨τ1, S⟩ ∧ wipeT own τ1 = wipeT own τ := ⟨τ1, lcb rfl s_nil rfl h, hw⟩
theorem lcb2f (ht : evT P hc xc c ⟨((wipeT own τ).set i (some x)).set j (some z), S⟩ = .ok k ⟨τ1, S⟩) (h : me ⟨τ1, S⟩ = .ok y ⟨τ1, S⟩) (hw : wipeT own τ1 = wipeT own τ) : ∃ τ1, lcBody (.tup [i, j]) (evTs P hc xc [c]) me (.tup [x, z]) ⟨wipeT own τ, S⟩ = .ok (cond k (some y) none) ⟨τ1, S⟩ ∧ wipeT own τ1 = wipeT own τ := ⟨τ1, lcb_if rfl ht h, hw⟩
end
theorem fold_fst {α γ δ : Type} (F : γ × δ → α → γ × δ) (f : γ → α → γ) (h : ∀ g a, (F g a).1 = f g.1 a) : ∀ (l : List α) (g : γ × δ), (l.foldl F g).1 = l.foldl f g.1
  | [], g => rfl
  | a :: l, g => by rw [List.foldl_cons, fold_fst F f h l, h]; rfl
/-- a loop whose states are known -/
theorem for_eq {α γ : Type} {turn : D → M Fl} {en : α → D} {st : γ → MS} {g0 : γ} {s s2 : MS} {l : List α} (F : γ → α → γ) (I : γ → Prop) (hs : s = st g0) (step : ∀ a ∈ l, ∀ g, I g → turn (en a) (st g) = .ok .nx (st (F g a)) ∧ I (F g a)) (h0 : I g0) (hr : st (l.foldl F g0) = s2) : forL turn (l.map en) s = .ok .nx s2 := by
  subst hs hr
  induction l generalizing g0 with
  | nil => rfl
  | cons a l ih =>
    obtain ⟨h1, h2⟩ := step a List.mem_cons_self g0 h0
    exact bind_k h1 (ih (fun b hb => step b (List.mem_cons_of_mem _ hb)) h2)
theorem for_eqI {α γ : Type} {turn : D → M Fl} {en : α → D} {st : γ → MS} {g0 : γ} {s s2 : MS} {l : List α} (F : γ → α → γ) (I : Nat → γ → Prop) (hs : s = st g0) (step : ∀ i a, l[i]? = some a → ∀ g, I i g → turn (en a) (st g) = .ok .nx (st (F g a)) ∧ I (i + 1) (F g a)) (h0 : I 0 g0) (hr : st (l.foldl F g0) = s2) : forL turn (l.map en) s = .ok .nx s2 := by
  subst hs hr
  have key : ∀ (m : List α) (i : Nat) (g : γ), (∀ j a, m[j]? = some a → l[i + j]? = some a) → I i g → forL turn (m.map en) (st g) = .ok .nx (st (m.foldl F g)) := by
    intro m
    induction m with
    | nil => intro i g _ _; rfl
    | cons a m ih =>
      intro i g hm hI
      obtain ⟨h1, h2⟩ := step i a (hm 0 a rfl) g hI
      exact bind_k h1 (ih (i + 1) _ (fun j b hj => by have := hm (j + 1) b (by simpa using hj); rw [show i + 1 + j = i + (j + 1) by omega]; exact this) h2)
  exact key l 0 g0 (fun j a h => by simpa using h) h0
/-- what a run's end says -/
def Runs (r : Rs Fl) (Q : D → List (Option D) → Prop) : Prop := ∃ d τ S', r = .ok (.rt d) ⟨τ, S'⟩ ∧ Q d S'
theorem runs_eq {r r' : Rs Fl} {Q : D → List (Option D) → Prop} (h : r = r') (hr : Runs r' Q) : Runs r Q := by subst h; exact hr
theorem runs_ret {r : Rs Fl} {Q : D → List (Option D) → Prop} {d : D} {τ S : List (Option D)} (h : r = .ok (.rt d) ⟨τ, S⟩) (q : Q d S) : Runs r Q := ⟨d, τ, S, h, q⟩
theorem runs_run {P : Pg} {hc : Hc} {fe : Fe} {ds : List D} {md : Nat} {S τ0 : List (Option D)} {Q : D → List (Option D) → Prop} (hl : ds.length = fe.np) (h0 : ds.map some ++ List.replicate (fe.nl - ds.length) none = τ0) (h : Runs (exB P hc ([], []) md fe.tb ⟨τ0, S⟩) Q) : ∃ d S', runB P hc fe ds md S = .ok d S' ∧ Q d S' := by
  obtain ⟨d, τ, S', h1, h2⟩ := h
  exact ⟨d, S', run_ret hl (by rw [h0]; exact h1), h2⟩
/-- a loop in a run -/
theorem runs_for {P : Pg} {hc : Hc} {xc : List Str × List D} {its : List TX} {rmd : Nat} {s1 : MS} {τ τ1 S : List (Option D)} {ws : List Nat} {ds src : List D} {tg : Gc.TG} {w : Wk} {t u : TB} {Q : D → List (Option D) → Prop} (I : List D → MS → Prop) (hz : wipeT ws τ = τ1) (h : evL P hc xc its 0 ⟨τ1, S⟩ = .ok ds s1) (hw : walkD s1.S w ds = some src) (h0 : I src s1)
    (step : ∀ x rest s, I (x :: rest) s → ∃ s', (M.bind (bindT tg x) (fun _ => wipeA ws (exB P hc xc rmd t)) s = .ok .nx s' ∨ M.bind (bindT tg x) (fun _ => wipeA ws (exB P hc xc rmd t)) s = .ok .ct s') ∧ I rest s') (fin : ∀ s2, I [] s2 → Runs (exB P hc xc rmd u s2) Q) : Runs (exB P hc xc rmd (.cons (.forr ws tg w its t) u) ⟨τ, S⟩) Q := by
  obtain ⟨s2, h1, h2⟩ := for_inv I step src s1 h0
  exact runs_eq (b_for hz h hw h1 rfl) (fin s2 h2)
theorem bind_l4 {i j k l : Nat} {a b c d : D} {τ S : List (Option D)} : bindT (.tup [i, j, k, l]) (.lst [a, b, c, d]) ⟨τ, S⟩ = .ok () ⟨(((τ.set i (some a)).set j (some b)).set k (some c)).set l (some d), S⟩ := rfl
theorem bind_l3 {i j k : Nat} {a b c : D} {τ S : List (Option D)} : bindT (.tup [i, j, k]) (.lst [a, b, c]) ⟨τ, S⟩ = .ok () ⟨((τ.set i (some a)).set j (some b)).set k (some c), S⟩ := rfl
theorem bind_t2 {i j : Nat} {a b : D} {τ S : List (Option D)} : bindT (.tup [i, j]) (.tup [a, b]) ⟨τ, S⟩ = .ok () ⟨(τ.set i (some a)).set j (some b), S⟩ := rfl
theorem bind_t3 {i j k : Nat} {a b c : D} {τ S : List (Option D)} : bindT (.tup [i, j, k]) (.tup [a, b, c]) ⟨τ, S⟩ = .ok () ⟨((τ.set i (some a)).set j (some b)).set k (some c), S⟩ := rfl
theorem bind_t4 {i j k l : Nat} {a b c d : D} {τ S : List (Option D)} : bindT (.tup [i, j, k, l]) (.tup [a, b, c, d]) ⟨τ, S⟩ = .ok () ⟨(((τ.set i (some a)).set j (some b)).set k (some c)).set l (some d), S⟩ := rfl
/-- what a block's end says -/
def Nx (r : Rs Fl) (Q : MS → Prop) : Prop := ∃ s, r = .ok .nx s ∧ Q s
theorem nx_eq {r r' : Rs Fl} {Q : MS → Prop} (h : r = r') (hr : Nx r' Q) : Nx r Q := by subst h; exact hr
theorem nx_end {r : Rs Fl} {Q : MS → Prop} {s : MS} (h : r = .ok .nx s) (q : Q s) : Nx r Q := ⟨s, h, q⟩
theorem nx_for {P : Pg} {hc : Hc} {xc : List Str × List D} {its : List TX} {rmd : Nat} {s1 : MS} {τ τ1 S : List (Option D)} {ws : List Nat} {ds src : List D} {tg : Gc.TG} {w : Wk} {t u : TB} {Q : MS → Prop} (I : List D → MS → Prop) (hz : wipeT ws τ = τ1) (h : evL P hc xc its 0 ⟨τ1, S⟩ = .ok ds s1) (hw : walkD s1.S w ds = some src) (h0 : I src s1)
    (step : ∀ x rest s, I (x :: rest) s → Nx (M.bind (bindT tg x) (fun _ => wipeA ws (exB P hc xc rmd t)) s) (I rest)) (fin : ∀ s2, I [] s2 → Nx (exB P hc xc rmd u s2) Q) : Nx (exB P hc xc rmd (.cons (.forr ws tg w its t) u) ⟨τ, S⟩) Q := by
  obtain ⟨s2, h1, h2⟩ := for_inv I (fun x rest s hI => let ⟨s', g1, g2⟩ := step x rest s hI; ⟨s', .inl g1, g2⟩) src s1 h0
  exact nx_eq (b_for hz h hw h1 rfl) (fin s2 h2)
theorem nx_one {m : M Fl} {i : Nat} {x : D} {τ S : List (Option D)} {Q : MS → Prop} (h : Nx (m ⟨τ.set i (some x), S⟩) Q) : Nx (M.bind (bindT (.one i) x) (fun _ => m) ⟨τ, S⟩) Q := nx_eq (turn_one rfl) h
theorem rep_k {S : List (Option D)} {xs : List D} {k : Nat} (h : xs.length * k ≤ sizeLine) (hk : k < 1000) : binD S .Mult (.lst xs) (.int k) = some (.l (List.replicate k xs).flatten) := by
  unfold binD
  simp only [de]
  rw [if_pos ⟨by omega, by omega, by rw [Int.toNat_natCast]; exact h⟩, Int.toNat_natCast]
theorem walk_lst {S : List (Option D)} {xs : List D} : walkD S .seq [.lst xs] = some xs := rfl
theorem walk_tup {S : List (Option D)} {xs : List D} : walkD S .seq [.tup xs] = some xs := rfl
theorem walk_rng {S : List (Option D)} {n : Nat} (h : n < 2 ^ 62) : walkD S .rng1 [.int n] = some ((List.range n).map fun k : Nat => .int (k : Int)) := by
  unfold walkD
  simp only
  rw [if_pos (by omega), Int.toNat_natCast]
theorem enum_map {α : Type} (f : α → D) (l : List α) : ((List.range (l.map f).length).zipWith (fun (n : Nat) x => D.tup [.int (n : Int), x]) (l.map f)) = (l.zipIdx).map fun p => .tup [.int (p.2 : Int), f p.1] := by
  apply List.ext_getElem?
  intro i
  rw [List.getElem?_zipWith, List.getElem?_map, List.getElem?_map, List.getElem?_zipIdx, List.length_map]
  by_cases h : i < l.length
  · rw [List.getElem?_range h, List.getElem?_eq_getElem h]; simp
  · rw [List.getElem?_eq_none (l := l) (by omega), List.getElem?_eq_none (l := List.range l.length) (by simp; omega)]; rfl
theorem walk_enum {α : Type} {S : List (Option D)} (f : α → D) (l : List α) : walkD S .enum [.lst (l.map f)] = some ((l.zipIdx).map fun p => .tup [.int (p.2 : Int), f p.1]) := by
  show some _ = _
  rw [enum_map]
theorem walk_enumt {α : Type} {S : List (Option D)} (f : α → D) (l : List α) : walkD S .enum [.tup (l.map f)] = some ((l.zipIdx).map fun p => .tup [.int (p.2 : Int), f p.1]) := by
  show some _ = _
  rw [enum_map]
end Gc

end

section
set_option Elab.async false
set_option linter.all false
set_option maxRecDepth 100000
set_option maxHeartbeats 1000000
/-! runs, on: comprehensions that choose, two walks, texts -/
namespace Gc
open PySem L2
open Enc (en)
theorem shaped_str {x : Str} (h : PyData.strOk x = true) : SeqAt.shaped (.str x) = true := by
  unfold SeqAt.shaped
  simp [PyData.canLay0, PyData.depth, h]
theorem eqv_str (a b : Str) : PyData.eqv (.str a) (.str b) = decide (a = b) := by
  rw [PyData.eqv]
  by_cases h : a = b
  · subst h; simp
  · simp [h]
section
variable {P : Pg} {hc : Hc} {xc : List Str × List D} {e c : TX} {its ifs : List TX} {md : Nat} {τ S : List (Option D)} {s : MS} {ds : List D}
/-- [x for x in .. if c] -/
theorem e_lcF {α : Type} {own : List Nat} {i : Nat} {w : Wk} {q : Rs D} {l : List α} {en : α → D} (p : α → Bool) (h : evL P hc xc its 0 s = .ok ds ⟨τ, S⟩) (hw : walkD S w ds = some (l.map en)) (hl : l.length ≤ sizeLine)
    (h1 : ∀ a ∈ l, ∃ τ1, evT P hc xc c ⟨(wipeT own τ).set i (some (en a)), S⟩ = .ok (p a) ⟨τ1, S⟩ ∧ τ1[i]? = some (some (en a)) ∧ rdV (en a) = true ∧ wipeT own τ1 = wipeT own τ) (h2 : new md (.lst ((l.filter p).map en)) ⟨τ, S⟩ = q) : ev P hc xc md (.lc own (.one i) w its [c] (.var i false)) s = q := by
  refine e_lcfm (l := l) (en := en) (fun a => cond (p a) (some (en a)) none) h hw hl (fun a ha => ?_) ?_
  · obtain ⟨τ1, g1, g2, g3, g4⟩ := h1 a ha
    exact ⟨τ1, lcb_if rfl (s_one g1) (e_var g2 g3), g4⟩
  · have ee : l.filterMap (fun a => cond (p a) (some (en a)) none) = (l.filter p).map en := by
      clear h2 h1 hw hl
      induction l with
      | nil => rfl
      | cons a l ih => cases hp : p a <;> simp [List.filterMap_cons, List.filter_cons, hp, ih]
    rw [ee]; exact h2
theorem lcF1 {own : List Nat} {i : Nat} {x : D} {k : Bool} {τ1 : List (Option D)} (h : evT P hc xc c ⟨(wipeT own τ).set i (some x), S⟩ = .ok k ⟨τ1, S⟩) (h2 : τ1[i]? = some (some x)) (h3 : rdV x = true) (h4 : wipeT own τ1 = wipeT own τ) :
    ∃ τ1, evT P hc xc c ⟨(wipeT own τ).set i (some x), S⟩ = .ok k ⟨τ1, S⟩ ∧ τ1[i]? = some (some x) ∧ rdV x = true ∧ wipeT own τ1 = wipeT own τ := ⟨τ1, h, h2, h3, h4⟩
/-- [e for x in .. if c] -/
theorem e_lcFM {α : Type} {own : List Nat} {tg : Gc.TG} {w : Wk} {q : Rs D} {l : List α} {en : α → D} (p : α → Bool) (f : α → D) (h : evL P hc xc its 0 s = .ok ds ⟨τ, S⟩) (hw : walkD S w ds = some (l.map en)) (hl : l.length ≤ sizeLine)
    (h1 : ∀ a ∈ l, ∃ τ0 τ1, bindT tg (en a) ⟨wipeT own τ, S⟩ = .ok () ⟨τ0, S⟩ ∧ evT P hc xc c ⟨τ0, S⟩ = .ok (p a) ⟨τ1, S⟩ ∧ wipeT own τ1 = wipeT own τ ∧ (p a = true → ∃ τ2, ev P hc xc (md - 1) e ⟨τ1, S⟩ = .ok (f a) ⟨τ2, S⟩ ∧ wipeT own τ2 = wipeT own τ)) (h2 : new md (.lst ((l.filter p).map f)) ⟨τ, S⟩ = q) : ev P hc xc md (.lc own tg w its [c] e) s = q := by
  refine e_lcfm (l := l) (en := en) (fun a => cond (p a) (some (f a)) none) h hw hl (fun a ha => ?_) ?_
  · obtain ⟨τ0, τ1, g0, g1, g2, g3⟩ := h1 a ha
    cases hp : p a with
    | true =>
      obtain ⟨τ2, g4, g5⟩ := g3 hp
      rw [hp] at g1
      exact ⟨τ2, lcb g0 (s_one g1) rfl g4, g5⟩
    | false =>
      rw [hp] at g1
      exact ⟨τ1, lcb_no g0 (s_one g1) rfl, g2⟩
  · have ee : l.filterMap (fun a => cond (p a) (some (f a)) none) = (l.filter p).map f := by
      clear h2 h1 hw hl
      induction l with
      | nil => rfl
      | cons a l ih => cases hp : p a <;> simp [List.filterMap_cons, List.filter_cons, hp, ih]
    rw [ee]; exact h2
/-- [e for x in .. for y in ..] -/
theorem e_lc2 {α β : Type} {own own1 : List Nat} {i j : Nat} {w w1 : Wk} {its1 : List TX} {q : Rs D} {l : List α} {en : α → D} (m : α → List β) (en1 : α → β → D) (f : α → β → D) (h : evL P hc xc its 0 s = .ok ds ⟨τ, S⟩) (hw : walkD S w ds = some (l.map en)) (hl : (l.flatMap m).length ≤ sizeLine)
    (h1 : ∀ a ∈ l, ∃ ds1 τ1, evL P hc xc its1 0 ⟨(wipeT own τ).set i (some (en a)), S⟩ = .ok ds1 ⟨τ1, S⟩ ∧ wipeT own τ1 = wipeT own τ ∧ walkD S w1 ds1 = some ((m a).map (en1 a)) ∧ ∀ b ∈ m a, ∃ τ2, ev P hc xc (md - 1) e ⟨(wipeT own1 τ1).set j (some (en1 a b)), S⟩ = .ok (f a b) ⟨τ2, S⟩ ∧ wipeT own1 τ2 = wipeT own1 τ1 ∧ wipeT own τ2 = wipeT own τ)
    (h2 : new md (.lst (l.flatMap fun a => (m a).map (f a))) ⟨τ, S⟩ = q) : ev P hc xc md (.lc2 own own1 (.one i) w its [] (.one j) w1 its1 [] e) s = q := by
  have inner : ∀ (a : α) (τ1 : List (Option D)), (∀ b ∈ m a, ∃ τ2, ev P hc xc (md - 1) e ⟨(wipeT own1 τ1).set j (some (en1 a b)), S⟩ = .ok (f a b) ⟨τ2, S⟩ ∧ wipeT own1 τ2 = wipeT own1 τ1 ∧ wipeT own τ2 = wipeT own τ) → ∀ (src : List β) (acc : List D) (τ' : List (Option D)), (∀ b ∈ src, b ∈ m a) → wipeT own1 τ' = wipeT own1 τ1 → wipeT own τ' = wipeT own τ → acc.length + src.length ≤ sizeLine →
      ∃ τ2, compL (turnM own1 (.one j) (evTs P hc xc []) (ev P hc xc (md - 1) e)) acc (src.map (en1 a)) ⟨τ', S⟩ = .ok (acc ++ src.map (f a)) ⟨τ2, S⟩ ∧ wipeT own τ2 = wipeT own τ := by
    intro a τ1 hb src
    induction src with
    | nil => intro acc τ' _ _ hw' _; exact ⟨τ', by simp only [List.map_nil, List.append_nil]; rfl, hw'⟩
    | cons b src ih =>
      intro acc τ' hm hw1 hw' hlen
      obtain ⟨τ2, g1, g2, g3⟩ := hb b (hm b List.mem_cons_self)
      have ht := turn_k (own := own1) (τ := τ') (mt := evTs P hc xc []) (me := ev P hc xc (md - 1) e) (tg := .one j) (x := en1 a b) (S := S) (s1 := ⟨τ2, S⟩) (g := some (f a b)) (by rw [hw1]; exact lcb rfl s_nil rfl g1)
      rw [List.length_cons] at hlen
      obtain ⟨τ3, g4, g5⟩ := ih (acc ++ [f a b]) τ2 (fun b hb => hm b (List.mem_cons_of_mem _ hb)) g2 g3 (by rw [List.length_append, List.length_singleton]; omega)
      refine ⟨τ3, bind_k ht ?_, g5⟩
      dsimp only
      rw [if_pos (by omega), g4]
      simp
  have outer : ∀ (src : List α) (acc : List D) (τ' : List (Option D)), (∀ a ∈ src, a ∈ l) → wipeT own τ' = wipeT own τ → acc.length + (src.flatMap m).length ≤ sizeLine →
      ∃ τ2, foldL (turn2M own (.one i) (evTs P hc xc []) (wkM w1 (evL P hc xc its1 0)) own1 (.one j) (evTs P hc xc []) (ev P hc xc (md - 1) e)) acc (src.map en) ⟨τ', S⟩ = .ok (acc ++ src.flatMap fun a => (m a).map (f a)) ⟨τ2, S⟩ ∧ wipeT own τ2 = wipeT own τ := by
    intro src
    induction src with
    | nil => intro acc τ' _ hw' _; exact ⟨τ', by simp only [List.map_nil, List.flatMap_nil, List.append_nil]; rfl, hw'⟩
    | cons a src ih =>
      intro acc τ' hm hw' hlen
      obtain ⟨ds1, τ1, g1, g2, g3, g4⟩ := h1 a (hm a List.mem_cons_self)
      rw [List.flatMap_cons, List.length_append] at hlen
      obtain ⟨τ3, g5, g6⟩ := inner a τ1 g4 (m a) acc τ1 (fun _ h => h) rfl g2 (by omega)
      obtain ⟨τ4, g7, g8⟩ := ih (acc ++ (m a).map (f a)) τ3 (fun b hb => hm b (List.mem_cons_of_mem _ hb)) g6 (by rw [List.length_append, List.length_map]; omega)
      have ht : turn2M own (.one i) (evTs P hc xc []) (wkM w1 (evL P hc xc its1 0)) own1 (.one j) (evTs P hc xc []) (ev P hc xc (md - 1) e) acc (en a) ⟨τ', S⟩ = .ok (acc ++ (m a).map (f a)) ⟨τ3, S⟩ := by
        show noX _ ⟨τ', S⟩ = _
        have key : M.bind (enter own (.one i) (en a)) (fun _ => M.bind (evTs P hc xc []) fun k => if k then M.bind (wkM w1 (evL P hc xc its1 0)) fun src => compL (turnM own1 (.one j) (evTs P hc xc []) (ev P hc xc (md - 1) e)) acc src else M.pure acc) ⟨τ', S⟩ = .ok (acc ++ (m a).map (f a)) ⟨τ3, S⟩ := by
          refine bind_k (s1 := ⟨(wipeT own τ).set i (some (en a)), S⟩) (a := ()) ?_ ?_
          · show Rs.ok () ⟨(wipeT own τ').set i (some (en a)), S⟩ = _
            rw [hw']
          · refine bind_k s_nil ?_
            rw [if_pos rfl]
            exact bind_k (bind_k g1 (opS_k g3)) g5
        unfold noX
        rw [key]
      refine ⟨τ4, bind_k ht ?_, g8⟩
      rw [g7, List.flatMap_cons]
      simp
  obtain ⟨τ2, h3, h4⟩ := outer l [] τ (fun _ h => h) rfl (by simpa using hl)
  refine bind_k (bind_k h (opS_k hw)) (bind_k (s1 := ⟨τ, S⟩) (a := l.flatMap fun a => (m a).map (f a)) ?_ h2)
  unfold block
  rw [h3]
  dsimp only
  rw [List.nil_append, back_wipe h4]
theorem lc2_1 {β : Type} {own : List Nat} {s0 : MS} {w1 : Wk} {its1 : List TX} {ms : List β} {en1 : β → D} {ds1 : List D} {τ1 : List (Option D)} {B : List (Option D) → β → Prop} (h : evL P hc xc its1 0 s0 = .ok ds1 ⟨τ1, S⟩) (hw : wipeT own τ1 = wipeT own τ) (hk : walkD S w1 ds1 = some (ms.map en1)) (hb : ∀ b ∈ ms, B τ1 b) :
    ∃ ds1 τ1, evL P hc xc its1 0 s0 = .ok ds1 ⟨τ1, S⟩ ∧ wipeT own τ1 = wipeT own τ ∧ walkD S w1 ds1 = some (ms.map en1) ∧ ∀ b ∈ ms, B τ1 b := ⟨ds1, τ1, h, hw, hk, hb⟩
theorem lc2_2 {own own1 : List Nat} {s0 : MS} {d : D} {τ1 τ2 : List (Option D)} (h : ev P hc xc md e s0 = .ok d ⟨τ2, S⟩) (h1 : wipeT own1 τ2 = wipeT own1 τ1) (h2 : wipeT own τ2 = wipeT own τ) : ∃ τ2, ev P hc xc md e s0 = .ok d ⟨τ2, S⟩ ∧ wipeT own1 τ2 = wipeT own1 τ1 ∧ wipeT own τ2 = wipeT own τ := ⟨τ2, h, h1, h2⟩
theorem lcFM1 {own : List Nat} {tg : Gc.TG} {x : D} {k : Bool} {τ0 τ1 : List (Option D)} {E : List (Option D) → Prop} (h0 : bindT tg x ⟨wipeT own τ, S⟩ = .ok () ⟨τ0, S⟩) (h : evT P hc xc c ⟨τ0, S⟩ = .ok k ⟨τ1, S⟩) (h4 : wipeT own τ1 = wipeT own τ) (he : k = true → E τ1) :
    ∃ τ0 τ1, bindT tg x ⟨wipeT own τ, S⟩ = .ok () ⟨τ0, S⟩ ∧ evT P hc xc c ⟨τ0, S⟩ = .ok k ⟨τ1, S⟩ ∧ wipeT own τ1 = wipeT own τ ∧ (k = true → E τ1) := ⟨τ0, τ1, h0, h, h4, he⟩
theorem lcFM2 {own : List Nat} {s0 : MS} {d : D} {τ2 : List (Option D)} (h : ev P hc xc md e s0 = .ok d ⟨τ2, S⟩) (h2 : wipeT own τ2 = wipeT own τ) : ∃ τ2, ev P hc xc md e s0 = .ok d ⟨τ2, S⟩ ∧ wipeT own τ2 = wipeT own τ := ⟨τ2, h, h2⟩
theorem bind_one {i : Nat} {x : D} : bindT (.one i) x ⟨τ, S⟩ = .ok () ⟨τ.set i (some x), S⟩ := rfl
end
theorem sum_const (w : Nat) : ∀ l : List Nat, (l.map fun _ => w).sum = l.length * w
  | [] => by simp
  | a :: l => by rw [List.map_cons, List.sum_cons, sum_const w l, List.length_cons, Nat.succ_mul]; omega
/-! ### leaves -/
theorem lenD_lst {S : List (Option D)} {xs : List D} : lenD S (.lst xs) = some xs.length := rfl
theorem lenD_map {α : Type} {f : α → D} {S : List (Option D)} {xs : List α} : lenD S (.lst (xs.map f)) = some xs.length := by rw [lenD_lst, List.length_map]
theorem lenD_tup {S : List (Option D)} {xs : List D} : lenD S (.tup xs) = some xs.length := rfl
theorem lenD_str {S : List (Option D)} {x : Str} (h : x.length ≤ 100000) : lenD S (.str x) = some x.length := by
  show (if x.length ≤ sizeLine then some x.length else none) = _
  rw [if_pos (by rw [sizeLine_eq]; omega)]
theorem asStrs_map {α : Type} (f : α → Str) : ∀ l : List α, asStrs (l.map fun a => .str (f a)) = some (l.map f)
  | [] => rfl
  | a :: l => by
    show (asStrs (l.map fun a => D.str (f a))).map (f a :: ·) = _
    rw [asStrs_map f l]; rfl
theorem join_k {α : Type} {S : List (Option D)} {y : Str} (f : α → Str) {l : List α} (h : ((l.map f).map (·.length)).sum + l.length * y.length ≤ 16777216) : joinD S y (.lst (l.map fun a => .str (f a))) = some (.str (Txt.join y (l.map f))) := by
  unfold joinD seqD de
  simp only [Option.bind_some, asStrs_map]
  rw [if_pos (by rw [List.length_map]; exact h)]
theorem split_k {x y : Str} (h : y.length ≠ 0) (hx : x.length ≤ 100000) : splitD x y = some (.l ((Txt.split x y).map .str)) := by
  unfold splitD
  rw [if_pos ⟨h, by rw [sizeLine_eq]; omega⟩]
theorem rev_k {α : Type} {f : α → D} {S : List (Option D)} {xs : List α} : revD S (.lst (xs.map f)) = some (.l (xs.reverse.map f)) := by
  show some (Ov.l (xs.map f).reverse) = _
  rw [List.map_reverse]
theorem sl_map {α : Type} {f : α → D} {S : List (Option D)} {xs : List α} {n : Nat} : slD S (.lst (xs.map f)) none (some (n : Int)) = some (.l ((xs.take n).map f)) := by rw [sl_to, List.map_take]
theorem slf_map {α : Type} {f : α → D} {S : List (Option D)} {xs : List α} {n : Nat} : slD S (.lst (xs.map f)) (some (n : Int)) none = some (.l ((xs.drop n).map f)) := by rw [sl_from, List.map_drop]
theorem add_map {α : Type} {f : α → D} {S : List (Option D)} {xs ys : List α} (h : xs.length + ys.length ≤ 100000) : binD S .Add (.lst (xs.map f)) (.lst (ys.map f)) = some (.l ((xs ++ ys).map f)) := by
  rw [add_lst (by rw [List.length_map, List.length_map, sizeLine_eq]; omega), List.map_append]
theorem add_str {S : List (Option D)} {x y : Str} (h : x.length + y.length ≤ 100000) : binD S .Add (.str x) (.str y) = some (.v (.str (x ++ y))) := by
  show (if x.length + y.length ≤ sizeLine then some (Ov.v (.str (x ++ y))) else none) = _
  rw [if_pos (by rw [sizeLine_eq]; omega)]
theorem eq_str {S : List (Option D)} {x y : Str} (hx : PyData.strOk x = true) (hy : PyData.strOk y = true) : cmpD S .Eq (.str x) (.str y) = some (decide (x = y)) := by
  have e : eqPy S (.str x) (.str y) = some (decide (x = y)) := by
    unfold eqPy de
    simp only [Option.bind_some, toPy]
    rw [shaped_str hx, shaped_str hy, eqv_str]
    rfl
  show eqT S (.str x) (.str y) = _
  unfold eqT
  rw [e]
theorem ne_str {S : List (Option D)} {x y : Str} (hx : PyData.strOk x = true) (hy : PyData.strOk y = true) : cmpD S .NotEq (.str x) (.str y) = some (!decide (x = y)) := by
  show (cmpD S .Eq (.str x) (.str y)).map (!·) = _
  rw [eq_str hx hy]
  rfl
/-- cells -/
abbrev enC (c : Int × Int) : D := .tup [.int c.1, .int c.2]
theorem in_cell {S : List (Option D)} {i j : Int} {l : List (Int × Int)} : cmpD S .In (.tup [.int i, .int j]) (.lst (l.map enC)) = some (decide ((i, j) ∈ l)) := (in_en (α := Int × Int) (by decide) (i, j) l).trans (by congr)
theorem in_cellt {S : List (Option D)} {i j : Int} {l : List (Int × Int)} : cmpD S .In (.tup [.int i, .int j]) (.tup (l.map enC)) = some (decide ((i, j) ∈ l)) := (in_ent (α := Int × Int) (by decide) (i, j) l).trans (by congr)
theorem notin_cell {S : List (Option D)} {i j : Int} {l : List (Int × Int)} : cmpD S .NotIn (.tup [.int i, .int j]) (.lst (l.map enC)) = some (!decide ((i, j) ∈ l)) := (notin_en (α := Int × Int) (by decide) (i, j) l).trans (by congr)
theorem eq_cells {S : List (Option D)} {l m : List (Int × Int)} : cmpD S .Eq (.lst (l.map enC)) (.lst (m.map enC)) = some (decide (l = m)) := eq_en (α := List (Int × Int)) (by decide) l m
theorem ne_cells {S : List (Option D)} {l m : List (Int × Int)} : cmpD S .NotEq (.lst (l.map enC)) (.lst (m.map enC)) = some (!decide (l = m)) := ne_en (α := List (Int × Int)) (by decide) l m
end Gc
namespace Gc
open PySem L2
section
variable {P : Pg} {hc : Hc} {xc : List Str × List D} {o : TX} {es us : List TX} {md f : Nat} {τ S S1 : List (Option D)} {s s1 s2 : MS} {x : D} {ds xs : List D}
theorem e_methKX {q : Fn} {m : Str} {ks : List Str} {c : Nat} {ns : List Str} {ys : List D} (ho : ev P hc xc 0 o s = .ok x s1) (hm : methD P s1.S x m = some f) (h : evL P hc xc es 0 s1 = .ok ds s2) (h' : evL P hc xc us 0 s2 = .ok xs ⟨τ, S⟩) (hq : P.fns[f]? = some q) (hk : q.ps.drop (ds.length + 1) = ks) (hl : (x :: (ds ++ xs)).length = q.np)
    (h2 : hc f (x :: (ds ++ xs)) md S = .exn c ns ys S1) : ev P hc xc md (.methK o m es ks us) s = .exn c ns ys ⟨τ, S1⟩ :=
  bind_k ho (bind_k (opS_k hm) (bind_k h (bind_k h' (by rw [if_pos (by rw [hq]; show some (q.ps.drop (ds.length + 1)) = some ks; rw [hk])]; exact callP_x hq hl h2))))
end
/-- == with the empty list -/
theorem eq_nilR {S : List (Option D)} {xs : List D} : cmpD S .Eq (.lst xs) (.lst []) = some xs.isEmpty := by
  show eqT S (.lst xs) (.lst []) = _
  have key : eqPy S (.lst xs) (.lst []) = none ∨ eqPy S (.lst xs) (.lst []) = some xs.isEmpty := by
    unfold eqPy de
    simp only [Option.bind_some, toPy]
    cases q : toPys xs with
    | none => left; rfl
    | some ps =>
      simp only [Option.map_some, Option.bind_some, toPys]
      split
      · right
        cases xs with
        | nil => simp [toPys] at q; subst q; rw [PyData.eqv]; rfl
        | cons x xs =>
          have : ∃ p r, ps = p :: r := by
            simp only [toPys] at q
            cases q1 : toPy x with
            | none => rw [q1] at q; cases q
            | some p =>
              rw [q1] at q
              cases q2 : toPys xs with
              | none => rw [q2] at q; cases q
              | some r => rw [q2] at q; cases q; exact ⟨p, r, rfl⟩
          obtain ⟨p, r, e⟩ := this
          subst e
          rw [PyData.eqv]
          simp [PyData.eqvAll]
      · left; rfl
  unfold eqT
  rcases key with h | h
  · rw [h]
    unfold eqSq de
    dsimp only
    cases xs with
    | nil => rfl
    | cons x xs => rfl
  · rw [h]
theorem ne_nilR {S : List (Option D)} {xs : List D} : cmpD S .NotEq (.lst xs) (.lst []) = some (!xs.isEmpty) := by
  show (cmpD S .Eq (.lst xs) (.lst [])).map (!·) = _
  rw [eq_nilR]; rfl
theorem sub_strs {S : List (Option D)} {xs : List Str} {i : Int} (h : 0 ≤ i) (h2 : i < xs.length) : subD S (.lst (xs.map .str)) (.int i) = some (.str (xs.getD i.toNat Str.empty)) := by
  refine sub_lst (atI_nat (n := i.toNat) (by omega) ?_)
  rw [List.getElem?_map, List.getD_eq_getElem?_getD]
  have : i.toNat < xs.length := by omega
  rw [List.getElem?_eq_getElem this]
  rfl
theorem sub_char {S : List (Option D)} {x : Str} {j : Int} (h : 0 ≤ j) (h2 : j < x.length) (hl : x.length ≤ 100000) : subD S (.str x) (.int j) = some (.str ⟨#[x.cps.toList.getD j.toNat 0]⟩) := by
  show (if x.length ≤ sizeLine then (atI x.cps.toList j).map fun c => D.str ⟨#[c]⟩ else none) = _
  rw [if_pos (by rw [sizeLine_eq]; omega)]
  have hj : j.toNat < x.cps.toList.length := by
    have e : x.cps.toList.length = x.length := by simp [Str.length]
    rw [e]; omega
  rw [atI_nat (n := j.toNat) (a := x.cps.toList.getD j.toNat 0) (by omega) (by rw [List.getD_eq_getElem?_getD, List.getElem?_eq_getElem hj]; rfl)]
  rfl
theorem walk_str {S : List (Option D)} {x : Str} : walkD S .seq [.str x] = some (x.cps.toList.map fun c => .str ⟨#[c]⟩) := rfl
theorem in_sign {S : List (Option D)} {c : Nat} {z : Str} : cmpD S .In (.str ⟨#[c]⟩) (.str z) = some (decide (c ∈ z.cps.toList)) := rfl
theorem notin_sign {S : List (Option D)} {c : Nat} {z : Str} : cmpD S .NotIn (.str ⟨#[c]⟩) (.str z) = some (!decide (c ∈ z.cps.toList)) := rfl
/-! ### parts of a text -/
theorem join_part {y : Str} : ∀ {ps : List Str} {p : Str}, p ∈ ps → p.length ≤ (Str.join y ps).length ∧ ∀ c ∈ p.cps.toList, c ∈ (Str.join y ps).cps.toList
  | [], p, h => by cases h
  | [q], p, h => by
    have e : p = q := by simpa using h
    subst e
    exact ⟨Nat.le_refl _, fun c hc => hc⟩
  | q :: r :: t, p, h => by
    have e : Str.join y (q :: r :: t) = q ++ y ++ Str.join y (r :: t) := rfl
    rw [e]
    have tl_app : ∀ a b : Str, (a ++ b).cps.toList = a.cps.toList ++ b.cps.toList := fun a b => TL.tl_append a b
    rcases List.mem_cons.mp h with h | h
    · subst h
      refine ⟨by rw [Str.length_append, Str.length_append]; omega, fun c hc => ?_⟩
      rw [tl_app, tl_app]
      exact List.mem_append_left _ (List.mem_append_left _ hc)
    · obtain ⟨h1, h2⟩ := join_part (y := y) h
      refine ⟨by rw [Str.length_append, Str.length_append]; omega, fun c hc => ?_⟩
      rw [tl_app]
      exact List.mem_append_right _ (h2 c hc)
theorem join_many {y : Str} (hy : 1 ≤ y.length) : ∀ ps : List Str, ps.length ≤ (Str.join y ps).length + 1
  | [] => by simp
  | [q] => by simp
  | q :: r :: t => by
    have ih := join_many hy (r :: t)
    have e : Str.join y (q :: r :: t) = q ++ y ++ Str.join y (r :: t) := rfl
    rw [e, Str.length_append, Str.length_append, List.length_cons]
    omega
theorem split_part {x y p : Str} (h : p ∈ Txt.split x y) : p.length ≤ x.length ∧ ∀ c ∈ p.cps.toList, c ∈ x.cps.toList := by
  have := join_part (y := y) h
  rw [StrLaws.join_split] at this
  exact this
theorem split_many {x y : Str} (hy : 1 ≤ y.length) : (Txt.split x y).length ≤ x.length + 1 := by
  have := join_many hy (Txt.split x y)
  rw [StrLaws.join_split] at this
  exact this
theorem strOk_iff {x : Str} : PyData.strOk x = true ↔ ∀ c ∈ x.cps.toList, c < 0x110000 := by
  unfold PyData.strOk
  rw [← Array.all_toList, List.all_eq_true]
  simp
end Gc

end

section
set_option Elab.async false
set_option linter.all false
set_option maxRecDepth 100000
set_option maxHeartbeats 1000000
/-! runs whose ends are known by what is true of them -/
namespace Gc
open PySem L2
def Wf (r : Rs Fl) (Q : Fl → MS → Prop) : Prop := ∃ fl s, r = .ok fl s ∧ Q fl s
theorem wf_eq {r r' : Rs Fl} {Q : Fl → MS → Prop} (h : r = r') (hr : Wf r' Q) : Wf r Q := by subst h; exact hr
theorem wf_end {r : Rs Fl} {Q : Fl → MS → Prop} {fl : Fl} {s : MS} (h : r = .ok fl s) (q : Q fl s) : Wf r Q := ⟨fl, s, h, q⟩
theorem wf_mono {r : Rs Fl} {Q Q' : Fl → MS → Prop} (h : Wf r Q) (q : ∀ fl s, Q fl s → Q' fl s) : Wf r Q' := let ⟨fl, s, e, h⟩ := h; ⟨fl, s, e, q fl s h⟩
/-- one step, then the rest -/
theorem wf_asg {P : Pg} {hc : Hc} {xc : List Str × List D} {e : TX} {md rmd i : Nat} {t : TB} {s : MS} {d : D} {τ S : List (Option D)} {Q : Fl → MS → Prop} (h : ev P hc xc md e s = .ok d ⟨τ, S⟩) (h2 : Wf (exB P hc xc rmd t ⟨τ.set i (some d), S⟩) Q) : Wf (exB P hc xc rmd (.cons (.asg i md e) t) s) Q := wf_eq (b_asg h rfl) h2
theorem wf_ite {P : Pg} {hc : Hc} {xc : List Str × List D} {e : TX} {rmd : Nat} {t u v : TB} {s s1 : MS} {k : Bool} {Q : Fl → MS → Prop} (h : evT P hc xc e s = .ok k s1) (h2 : Wf (exB P hc xc rmd (cond k (t.app v) (u.app v)) s1) Q) : Wf (exB P hc xc rmd (.cons (.ite e t u) v) s) Q := wf_eq (b_ite h rfl) h2
theorem wf_ff {P : Pg} {hc : Hc} {xc : List Str × List D} {e : TX} {rmd : Nat} {t u v : TB} {s s1 : MS} {k : Bool} {Q : Fl → MS → Prop} (h : evT P hc xc e s = .ok k s1) (hk : k = false) (h2 : Wf (exB P hc xc rmd (u.app v) s1) Q) : Wf (exB P hc xc rmd (.cons (.ite e t u) v) s) Q := by subst hk; exact wf_ite h h2
theorem wf_tt {P : Pg} {hc : Hc} {xc : List Str × List D} {e : TX} {rmd : Nat} {t u v : TB} {s s1 : MS} {k : Bool} {Q : Fl → MS → Prop} (h : evT P hc xc e s = .ok k s1) (hk : k = true) (h2 : Wf (exB P hc xc rmd (t.app v) s1) Q) : Wf (exB P hc xc rmd (.cons (.ite e t u) v) s) Q := by subst hk; exact wf_ite h h2
theorem wf_for {P : Pg} {hc : Hc} {xc : List Str × List D} {its : List TX} {rmd : Nat} {s1 : MS} {τ τ1 S : List (Option D)} {ws : List Nat} {ds src : List D} {tg : Gc.TG} {w : Wk} {t u : TB} {Q : Fl → MS → Prop} (I : List D → MS → Prop) (hz : wipeT ws τ = τ1) (h : evL P hc xc its 0 ⟨τ1, S⟩ = .ok ds s1) (hw : walkD s1.S w ds = some src) (h0 : I src s1)
    (step : ∀ x rest s, I (x :: rest) s → ∃ s', (M.bind (bindT tg x) (fun _ => wipeA ws (exB P hc xc rmd t)) s = .ok .nx s' ∨ M.bind (bindT tg x) (fun _ => wipeA ws (exB P hc xc rmd t)) s = .ok .ct s') ∧ I rest s') (fin : ∀ s2, I [] s2 → Wf (exB P hc xc rmd u s2) Q) : Wf (exB P hc xc rmd (.cons (.forr ws tg w its t) u) ⟨τ, S⟩) Q := by
  obtain ⟨s2, h1, h2⟩ := for_inv I step src s1 h0
  exact wf_eq (b_for hz h hw h1 rfl) (fin s2 h2)
/-- a turn, by what is true of its end -/
theorem wf_turn1 {i : Nat} {x : D} {ws : List Nat} {m : M Fl} {τ S : List (Option D)} {s' : MS} {fl : Fl} (h : Wf (m ⟨τ.set i (some x), S⟩) fun fl' s => fl' = fl ∧ ⟨wipeT ws s.τ, s.S⟩ = s') : M.bind (bindT (.one i) x) (fun _ => wipeA ws m) ⟨τ, S⟩ = .ok fl s' := by
  obtain ⟨fl', s, h1, e1, h2⟩ := h
  subst e1
  rw [← h2]
  exact turn1 (τ2 := s.τ) (S2 := s.S) h1 rfl
theorem turn_ex {i : Nat} {x : D} {ws : List Nat} {m : M Fl} {τ S : List (Option D)} {J : MS → Prop} (h : Wf (m ⟨τ.set i (some x), S⟩) fun fl s => (fl = .nx ∨ fl = .ct) ∧ J ⟨wipeT ws s.τ, s.S⟩) :
    ∃ s', (M.bind (bindT (.one i) x) (fun _ => wipeA ws m) ⟨τ, S⟩ = .ok .nx s' ∨ M.bind (bindT (.one i) x) (fun _ => wipeA ws m) ⟨τ, S⟩ = .ok .ct s') ∧ J s' := by
  obtain ⟨fl, s, h1, h2, h3⟩ := h
  refine ⟨_, ?_, h3⟩
  rcases h2 with h2 | h2 <;> subst h2
  · exact .inl (turn1 (τ2 := s.τ) (S2 := s.S) h1 rfl)
  · exact .inr (turn1 (τ2 := s.τ) (S2 := s.S) h1 rfl)
theorem make_set {S : List (Option D)} {d : D} : (S ++ [some d]).set S.length none = S ++ [none] := by simp
/-- a new object that is laid down at once -/
theorem e_makeT {P : Pg} {hc : Hc} {xc : List Str × List D} {es : List TX} {s : MS} {ds : List D} {τ S : List (Option D)} {d : D} {c : Nat} {q : Cl} {fn : Fn} (h : evL P hc xc es 0 s = .ok ds ⟨τ, S⟩) (hq : P.cl c = some q) (hx : q.exc = none) (hfn : P.fns[q.init]? = some fn) (hl : fn.np = ds.length + 1) (h2 : hc q.init (.ref S.length :: ds) 0 (S ++ [some (.obj c [] [])]) = .ok .non (S ++ [some d])) :
    ev P hc xc 0 (.make 0 c es) s = .ok d ⟨τ, S ++ [none]⟩ := by
  have := e_make (d := d) h hq hx hfn hl h2 last_at
  rw [make_set] at this
  exact this
theorem e_slHi {P : Pg} {hc : Hc} {xc : List Str × List D} {o e : TX} {md : Nat} {s s1 s2 : MS} {x : D} {j : Int} {v : Ov} {q : Rs D} (hn : notStarT e = true) (ho : ev P hc xc 0 o s = .ok x s1) (he : ev P hc xc 0 e s1 = .ok (.int j) s2) (hs : slD s2.S x none (some j) = some v) (hf : fin md v s2 = q) : ev P hc xc md (.sl o false true [e]) s = q := e_sl ho (l_cons hn he l_nil) rfl hs hf
theorem e_slLo {P : Pg} {hc : Hc} {xc : List Str × List D} {o e : TX} {md : Nat} {s s1 s2 : MS} {x : D} {j : Int} {v : Ov} {q : Rs D} (hn : notStarT e = true) (ho : ev P hc xc 0 o s = .ok x s1) (he : ev P hc xc 0 e s1 = .ok (.int j) s2) (hs : slD s2.S x (some j) none = some v) (hf : fin md v s2 = q) : ev P hc xc md (.sl o true false [e]) s = q := e_sl ho (l_cons hn he l_nil) rfl hs hf
theorem sl_one {α : Type} {f : α → D} {S : List (Option D)} {xs : List α} : slD S (.lst (xs.map f)) none (some 1) = some (.l ((xs.take 1).map f)) := sl_map (n := 1)
theorem sl_two {α : Type} {f : α → D} {S : List (Option D)} {xs : List α} : slD S (.lst (xs.map f)) none (some 2) = some (.l ((xs.take 2).map f)) := sl_map (n := 2)
theorem slS {S : List (Option D)} {z : Str} {lo hi : Option Int} (h : z.length ≤ 100000) : slD S (.str z) lo hi = some (.v (.str (cutS z lo hi))) := by
  show (if z.length ≤ sizeLine then some (Ov.v (.str (cutS z lo hi))) else none) = _
  rw [if_pos (by rw [sizeLine_eq]; omega)]
theorem slf_map1 {α : Type} {f : α → D} {S : List (Option D)} {xs : List α} {n : Nat} : slD S (.lst (xs.map f)) (some ((n : Int) + 1)) none = some (.l ((xs.drop (n + 1)).map f)) := slf_map (n := n + 1)
theorem join_strs {S : List (Option D)} {y : Str} {ys : List Str} (h : (ys.map (·.length)).sum + ys.length * y.length ≤ 16777216) : joinD S y (.lst (ys.map .str)) = some (.str (Txt.join y ys)) := by
  have := join_k (S := S) (y := y) (fun a : Str => a) (l := ys) (by simpa using h)
  simpa using this
theorem foldl_snoc {α β : Type} (f : α → β) : ∀ (l : List α) (g : List β), l.foldl (fun g a => g ++ [f a]) g = g ++ l.map f
  | [], g => by simp
  | a :: l, g => by rw [List.foldl_cons, foldl_snoc f l]; simp
end Gc

end

section
set_option Elab.async false
set_option linter.all false
set_option maxRecDepth 100000
set_option maxHeartbeats 0
namespace K06
open PySem PySem.Spec L2 He Gc
abbrev pw : Program := PySem.Challenge.pw_gridcodes_k06_pictures
def top (i : Nat) : Stmt := pw.main.body.getD i (.Pass ⟨0, 0, 0, 0⟩)
def inC (i j : Nat) : Stmt := match top i with
  | .ClassDef (body := b) .. => b.getD j (.Pass ⟨0, 0, 0, 0⟩)
  | _ => .Pass ⟨0, 0, 0, 0⟩
def dF (x : Str) (i : Nat) : DefD := ⟨(x, none), x, x, defArgs (top i), defBody (top i), defScope (top i), [], []⟩
def dM (c m q : Str) (i j : Nat) : DefD := ⟨(c, some m), m, q, defArgs (inC i j), defBody (inC i j), defScope (inC i j), [], []⟩
def fns_0 : List DefD := [dF "is_integer" 8,
  dF "is_shape" 10,
  dM "Shape" "__init__" "Shape.__init__" 11 0,
  dM "Shape" "cells" "Shape.cells" 11 5,
  dM "Shape" "__len__" "Shape.__len__" 11 6,
  dM "Shape" "__eq__" "Shape.__eq__" 11 7,
  dM "Shape" "has" "Shape.has" 11 8,
  dM "Shape" "checked" "Shape.checked" 11 9,
  dM "Shape" "picture" "Shape.picture" 11 18,
  dM "Shape" "of_picture" "Shape.of_picture" 11 19,
  dF "_law_cell" 13,
  dF "_law_box" 14,
  dF "_law_take" 15,
  dF "_law_shape" 16,
  dF "_law_cells" 17,
  dF "_law_some" 18,
  dF "_law_due" 19,
  dF "_law_read" 20,
  dF "law" 21]
def fns : List DefD := fns_0
def Ns_0 : List (List Str) := [["value"],
  ["rows", "columns", "a", "b", "number"],
  ["self", "rows", "columns", "a", "b"],
  ["self", "i", "j"],
  ["self"],
  ["self", "other"],
  ["self", "value", "number"],
  ["self", "lost", "cell"],
  ["self", "lost", "gone", "rows", "i", "j", "row"],
  ["self", "text", "lines", "number", "line", "i", "j", "sign"],
  ["_law_script", "_law_k"],
  ["_law_script", "_law_k"],
  ["_law_box_here", "_law_many", "_law_mixed", "_law_digit"],
  ["_law_box_here", "_law_most", "_law_rows", "_law_columns"],
  ["_law_form", "_law_found", "_law_i", "_law_j"],
  ["_law_box_here", "_law_form", "_law_way", "_law_cell_here"],
  ["_law_form", "_law_phrase", "_law_lines", "_law_k", "_law_i", "_law_j", "_law_sign"],
  ["_law_shape_here", "_law_phrase", "e"],
  ["_law_script", "_law_k", "_law_box_here", "_law_form", "_law_shape_here", "_law_lost", "_law_lines", "_law_i", "_law_phrase", "_law_turn", "_law_odd", "e", "_law_at", "_law_sign", "_law_near", "_law_row", "_law_fewer", "_law_prose", "_law_j"]]
def Ns : List (List Str) := Ns_0
def pol_0 : List ((Pos → Bool) × (Pos → Nat) × (Pos → List Nat)) := [(fun _ => false, fun _ => 0, fun _ => []),
  (fun _ => false, fun _ => 0, fun _ => []),
  (fun _ => false, fun _ => 0, fun _ => []),
  (fun _ => false, fun _ => 0, fun _ => []),
  (fun _ => false, fun _ => 0, fun _ => []),
  (fun _ => false, fun _ => 0, fun _ => []),
  (fun _ => false, fun _ => 0, fun _ => []),
  (fun _ => false, fun _ => 0, fun _ => []),
  (fun _ => false, fun _ => 0, fun _ => []),
  (fun _ => false, fun _ => 0, fun p => if p.line == 114 && p.col == 8 then [3, 4] else []),
  (fun _ => false, fun _ => 0, fun _ => []),
  (fun _ => false, fun _ => 0, fun _ => []),
  (fun _ => false, fun _ => 0, fun _ => []),
  (fun _ => false, fun _ => 0, fun _ => []),
  (fun _ => false, fun _ => 0, fun p => if p.line == 140 && p.col == 4 then [2] else []),
  (fun _ => false, fun _ => 0, fun _ => []),
  (fun _ => false, fun _ => 0, fun p => if p.line == 148 && p.col == 4 then [3] else []),
  (fun _ => false, fun _ => 0, fun _ => []),
  (fun p => (p.line == 168 && p.col == 32), fun p => if p.line == 161 && p.col == 8 then 1 else if p.line == 165 && p.col == 8 then 1 else 0, fun p => if p.line == 160 && p.col == 4 then [1, 2, 3, 4, 5, 6, 7, 8, 9, 10, 12, 13, 14, 15, 16, 17] else if p.line == 166 && p.col == 8 then [7] else if p.line == 171 && p.col == 8 then [9, 12, 13, 14, 15, 16, 17] else if p.line == 177 && p.col == 12 then [17] else [])]
def pol : List ((Pos → Bool) × (Pos → Nat) × (Pos → List Nat)) := pol_0
def mk (x : Str) (k : Nat) : Str × Nat := (x, k)
def pfns_0 : List Fn := [⟨["value"], 1, []⟩,
  ⟨["rows", "columns", "a", "b"], 5, []⟩,
  ⟨["self", "rows", "columns", "a", "b"], 5, []⟩,
  ⟨["self"], 3, []⟩,
  ⟨["self"], 1, []⟩,
  ⟨["self", "other"], 2, []⟩,
  ⟨["self", "value"], 3, []⟩,
  ⟨["self", "lost"], 3, []⟩,
  ⟨["self", "lost"], 7, []⟩,
  ⟨["self", "text"], 8, []⟩,
  ⟨["_law_script", "_law_k"], 2, []⟩,
  ⟨["_law_script", "_law_k"], 2, []⟩,
  ⟨["_law_box_here", "_law_many"], 4, []⟩,
  ⟨["_law_box_here", "_law_most"], 4, []⟩,
  ⟨["_law_form"], 4, []⟩,
  ⟨["_law_box_here", "_law_form"], 4, []⟩,
  ⟨["_law_form", "_law_phrase"], 7, []⟩,
  ⟨["_law_shape_here", "_law_phrase"], 3, []⟩,
  ⟨["_law_script"], 19, []⟩]
def pfns : List Fn := pfns_0
def P : Pg := {
  fns := pfns,
  cls := [⟨2, [mk "cells" 3, mk "__len__" 4, mk "__eq__" 5, mk "has" 6, mk "checked" 7, mk "picture" 8, mk "of_picture" 9], ["height", "width", "borne"], none, []⟩,
    ⟨0, [], [], some ([] : List Str), [1]⟩,
    ⟨0, [], [], some (["given"] : List Str), [2, 1]⟩,
    ⟨0, [], [], some (["given"] : List Str), [3, 1]⟩,
    ⟨0, [], [], some (["given"] : List Str), [4, 1]⟩,
    ⟨0, [], [], some (["line"] : List Str), [5, 1]⟩],
  fu := 200, xfs := ["given", "line"] }
def gk (x : Str) (k : Gk) : Str × Gk := (x, k)
def gls_0 : List (Str × Gk) := [gk "is_integer" (.fn 0),
  gk "is_shape" (.fn 1),
  gk "_law_cell" (.fn 10),
  gk "_law_box" (.fn 11),
  gk "_law_take" (.fn 12),
  gk "_law_shape" (.fn 13),
  gk "_law_cells" (.fn 14),
  gk "_law_some" (.fn 15),
  gk "_law_due" (.fn 16),
  gk "_law_read" (.fn 17),
  gk "law" (.fn 18),
  gk "Shape" (.cls 0),
  gk "GridError" (.cls 1),
  gk "BadShape" (.cls 2),
  gk "BadCells" (.cls 3),
  gk "BadLine" (.cls 4),
  gk "WrongLine" (.cls 5),
  gk "abs" .blt,
  gk "all" .blt,
  gk "bool" .blt]
def gls_1 : List (Str × Gk) := [gk "enumerate" .blt,
  gk "int" .blt,
  gk "isinstance" .blt,
  gk "len" .blt,
  gk "list" .blt,
  gk "max" .blt,
  gk "min" .blt,
  gk "range" .blt,
  gk "tuple" .blt]
def gls : List (Str × Gk) := gls_0 ++ gls_1
def D : LD := { fns := fns, Ns := Ns, pol := pol, cln := ["Shape", "GridError", "BadShape", "BadCells", "BadLine", "WrongLine"], P := P, xin := [(2, dM "BadShape" "__init__" "BadShape.__init__" 3 0), (3, dM "BadCells" "__init__" "BadCells.__init__" 4 0), (4, dM "BadLine" "__init__" "BadLine.__init__" 5 0), (5, dM "WrongLine" "__init__" "WrongLine.__init__" 6 0)], gls := gls, root := "GridError" }
def dec (f : Nat) : Option TB := match fns[f]? with | some d => dB P 40 60 (D.dx f d) d.body | none => none
abbrev b_is_integer : TB := (.cons (.ret (.and (.isi (.var 0 false) [.int]) (.not (.isi (.var 0 false) [.bool])))) .nil)
abbrev b_is_shape : TB := (.cons (.ite (.not (.blt .all [(.lc [4] (.one 4) .seq [(.tup [(.var 0 false), (.var 1 false), (.var 2 false), (.var 3 false)])] [] (.call 0 [(.var 4 false)]))])) (.cons (.ret (.con (.bl false))) .nil) .nil) (.cons (.ret (.and (.chn .LtE .Lt (.con (.int 0)) (.var 2 false) (.var 0 false)) (.chn .LtE .Lt (.con (.int 0)) (.var 3 false) (.var 1 false)))) .nil))
abbrev b_Shape___init__ : TB := (.cons (.ite (.not (.call 1 [(.var 1 false), (.var 2 false), (.var 3 false), (.var 4 false)])) (.cons (.rse 2 [(.tup [(.var 1 false), (.var 2 false), (.var 3 false), (.var 4 false)])]) .nil) .nil) (.cons (.fld (.var 0 false) "height" (.var 1 false)) (.cons (.fld (.var 0 false) "width" (.var 2 false)) (.cons (.fld (.var 0 false) "borne" (.dic 0 [(Sum.inr "row"), (Sum.inr "column")] [(.var 4 false), (.var 3 false)])) .nil))))
abbrev b_Shape_cells : TB := (.cons (.ret (.lc2 [1, 2] [2] (.one 1) .rng1 [(.attr (.var 0 false) "height")] [] (.one 2) .rng1 [(.attr (.var 0 false) "width")] [] (.tup [(.var 1 false), (.var 2 false)]))) .nil)
abbrev b_Shape___len__ : TB := (.cons (.ret (.len (.meth (.var 0 false) "cells" []))) .nil)
abbrev b_Shape___eq__ : TB := (.cons (.ite (.not (.isi (.var 1 false) [(.cls 0)])) (.cons (.ret (.con (.bl false))) .nil) .nil) (.cons (.ret (.cmp .Eq (.tup [(.attr (.var 0 false) "height"), (.attr (.var 0 false) "width"), (.attr (.var 0 false) "borne")]) (.tup [(.attr (.var 1 false) "height"), (.attr (.var 1 false) "width"), (.attr (.var 1 false) "borne")]))) .nil))
abbrev b_Shape_has : TB := (.cons (.ite (.or (.not (.isi (.var 1 false) [.tuple])) (.or (.cmp .NotEq (.len (.var 1 false)) (.con (.int 2))) (.not (.blt .all [(.lc [2] (.one 2) .seq [(.var 1 false)] [] (.call 0 [(.var 2 false)]))])))) (.cons (.ret (.con (.bl false))) .nil) .nil) (.cons (.ret (.and (.chn .LtE .Lt (.con (.int 0)) (.sub (.var 1 false) (.con (.int 0))) (.attr (.var 0 false) "height")) (.chn .LtE .Lt (.con (.int 0)) (.sub (.var 1 false) (.con (.int 1))) (.attr (.var 0 false) "width")))) .nil))
abbrev b_Shape_checked : TB := (.cons (.ite (.or (.not (.isi (.var 1 false) [.list, .tuple])) (.not (.blt .all [(.lc [2] (.one 2) .seq [(.var 1 false)] [] (.meth (.var 0 false) "has" [(.var 2 false)]))]))) (.cons (.rse 3 [(.var 1 false)]) .nil) .nil) (.cons (.ret (.lc [2] (.one 2) .seq [(.meth (.var 0 false) "cells" [])] [(.cmp .In (.var 2 false) (.var 1 false))] (.var 2 false))) .nil))
abbrev b_Shape_picture : TB := (.cons (.asg 2 0 (.meth (.var 0 false) "checked" [(.var 1 false)])) (.cons (.asg 3 0 (.lc [4] (.one 4) .rng1 [(.attr (.var 0 false) "height")] [] (.lc [5] (.one 5) .rng1 [(.attr (.var 0 false) "width")] [] (.ife (.cmp .In (.tup [(.var 4 false), (.var 5 false)]) (.var 2 false)) (.con (.str "x")) (.con (.str ".")))))) (.cons (.ret (.sjn (.con (.str "\n")) (.lc [6] (.one 6) .seq [(.var 3 false)] [] (.sjn (.con (.str "")) (.var 6 false))))) .nil)))
abbrev b_Shape_of_picture : TB := (.cons (.asg 2 0 (.ssp (.var 1 false) (.con (.str "\n")))) (.cons (.forr [3, 4] (.tup [3, 4]) .enum [(.var 2 false)] (.cons (.ite (.or (.cmp .Eq (.var 3 false) (.attr (.var 0 false) "height")) (.or (.cmp .NotEq (.len (.var 4 false)) (.attr (.var 0 false) "width")) (.not (.blt .all [(.lc [7] (.one 7) .seq [(.var 4 false)] [] (.cmp .In (.var 7 false) (.con (.str "x."))))])))) (.cons (.rse 5 [(.bin .Add (.var 3 false) (.con (.int 1)))]) .nil) .nil) .nil)) (.cons (.ite (.cmp .Lt (.len (.var 2 false)) (.attr (.var 0 false) "height")) (.cons (.rse 5 [(.bin .Add (.len (.var 2 false)) (.con (.int 1)))]) .nil) .nil) (.cons (.ret (.lc [5, 6] (.tup [5, 6]) .seq [(.meth (.var 0 false) "cells" [])] [(.cmp .Eq (.sub (.sub (.var 2 false) (.var 5 false)) (.var 6 false)) (.con (.str "x")))] (.tup [(.var 5 false), (.var 6 false)]))) .nil))))
abbrev b__law_cell : TB := (.cons (.ret (.ife (.cmp .Lt (.var 1 false) (.len (.var 0 false))) (.sub (.var 0 false) (.var 1 false)) (.con (.int 0)))) .nil)
abbrev b__law_box : TB := (.cons (.ret (.lst [(.blt .abs [(.blt .int [(.call 10 [(.var 0 false), (.var 1 false)])])]), (.con (.int 0)), (.bin .Add (.bin .Mult (.con (.int 40503)) (.var 1 false)) (.con (.int 911)))])) .nil)
abbrev b__law_take : TB := (.cons (.ite (.cmp .GtE (.sub (.var 0 false) (.con (.int 0))) (.bin .Pow (.con (.int 10)) (.con (.int 18)))) (.cons (.asg 3 0 (.bin .Mod (.blt .int [(.sub (.var 0 false) (.con (.int 0)))]) (.var 1 false))) (.cons (.put (.var 0 false) (.con (.int 0)) (.bin .FloorDiv (.sub (.var 0 false) (.con (.int 0))) (.var 1 false))) (.cons (.ret (.var 3 false)) .nil))) .nil) (.cons (.put (.var 0 false) (.con (.int 1)) (.bin .Add (.sub (.var 0 false) (.con (.int 1))) (.con (.int 1)))) (.cons (.asg 2 0 (.bin .Mod (.bin .Pow (.blt .int [(.bin .Add (.bin .Add (.bin .Mult (.bin .Add (.sub (.var 0 false) (.con (.int 0))) (.con (.int 7))) (.con (.int 69069))) (.bin .Mult (.sub (.var 0 false) (.con (.int 1))) (.con (.int 40692)))) (.sub (.var 0 false) (.con (.int 2))))]) (.con (.int 3))) (.con (.int 2147483647)))) (.cons (.asg 2 0 (.bin .Mod (.bin .Pow (.blt .int [(.bin .Add (.var 2 false) (.bin .Mult (.sub (.var 0 false) (.con (.int 1))) (.con (.int 17389))))]) (.con (.int 3))) (.con (.int 2147483399)))) (.cons (.ret (.bin .Mod (.blt .int [(.bin .FloorDiv (.var 2 false) (.con (.int 64)))]) (.var 1 false))) .nil)))))
abbrev b__law_shape : TB := (.cons (.asg 2 0 (.bin .Add (.con (.int 1)) (.call 12 [(.var 0 false), (.var 1 false)]))) (.cons (.asg 3 0 (.bin .Add (.con (.int 1)) (.call 12 [(.var 0 false), (.var 1 false)]))) (.cons (.ret (.tup [(.var 2 false), (.var 3 false), (.call 12 [(.var 0 false), (.var 2 false)]), (.call 12 [(.var 0 false), (.var 3 false)])])) .nil)))
abbrev b__law_cells : TB := (.cons (.asg 1 0 (.lst [])) (.cons (.forr [2] (.one 2) .rng1 [(.sub (.var 0 false) (.con (.int 0)))] (.cons (.asg 1 0 (.bin .Add (.var 1 false) (.lc [3] (.one 3) .rng1 [(.sub (.var 0 false) (.con (.int 1)))] [] (.tup [(.var 2 false), (.var 3 false)])))) .nil)) (.cons (.ret (.var 1 false)) .nil)))
abbrev b__law_some : TB := (.cons (.asg 2 0 (.bin .Add (.con (.int 1)) (.call 12 [(.var 0 false), (.con (.int 4))]))) (.cons (.ret (.lc [3] (.one 3) .seq [(.call 14 [(.var 1 false)])] [(.cmp .Lt (.call 12 [(.var 0 false), (.con (.int 5))]) (.var 2 false))] (.var 3 false))) .nil))
abbrev b__law_due : TB := (.cons (.asg 2 0 (.ssp (.var 1 false) (.con (.str "\n")))) (.cons (.forr [3] (.one 3) .rng1 [(.len (.var 2 false))] (.cons (.ite (.or (.cmp .Eq (.var 3 false) (.sub (.var 0 false) (.con (.int 0)))) (.or (.cmp .NotEq (.len (.sub (.var 2 false) (.var 3 false))) (.sub (.var 0 false) (.con (.int 1)))) (.cmp .NotEq (.lc [6] (.one 6) .seq [(.sub (.var 2 false) (.var 3 false))] [(.cmp .NotIn (.var 6 false) (.con (.str "x.")))] (.var 6 false)) (.lst [])))) (.cons (.ret (.bin .Add (.var 3 false) (.con (.int 1)))) .nil) .nil) .nil)) (.cons (.ite (.cmp .Lt (.len (.var 2 false)) (.sub (.var 0 false) (.con (.int 0)))) (.cons (.ret (.bin .Add (.len (.var 2 false)) (.con (.int 1)))) .nil) .nil) (.cons (.ret (.lc [4, 5] (.tup [4, 5]) .seq [(.call 14 [(.var 0 false)])] [(.cmp .Eq (.sub (.sub (.var 2 false) (.var 4 false)) (.var 5 false)) (.con (.str "x")))] (.tup [(.var 4 false), (.var 5 false)]))) .nil))))
abbrev b__law_read : TB := (.cons (.tri (.cons (.ret (.methK (.var 0 false) "of_picture" [] ["text"] [(.var 1 false)])) .nil) (.cons 5 (some 2) (.cons (.ret (.exf 2 "line")) .nil) .nil)) .nil)
abbrev b_law : TB := (.cons (.forr [1, 2, 3, 4, 5, 6, 7, 8, 9, 10, 12, 13, 14, 15, 16, 17] (.one 1) .rng1 [(.blt .max [(.con (.int 1)), (.blt .min [(.con (.int 2)), (.len (.var 0 false))])])] (.cons (.asg 2 1 (.call 11 [(.var 0 false), (.var 1 false)])) (.cons (.asg 3 0 (.call 13 [(.var 2 false), (.con (.int 5))])) (.cons (.asg 4 0 (.make 0 0 [(.sub (.var 3 false) (.con (.int 0))), (.sub (.var 3 false) (.con (.int 1))), (.sub (.var 3 false) (.con (.int 2))), (.sub (.var 3 false) (.con (.int 3)))])) (.cons (.asg 5 0 (.call 15 [(.var 2 false), (.var 3 false)])) (.cons (.asg 6 1 (.lst [])) (.cons (.forr [7] (.one 7) .rng1 [(.sub (.var 3 false) (.con (.int 0)))] (.cons (.expr (.bm (.var 6 false) .append [(.sjn (.con (.str "")) (.lc [18] (.one 18) .rng1 [(.sub (.var 3 false) (.con (.int 1)))] [] (.ife (.cmp .In (.tup [(.var 7 false), (.var 18 false)]) (.var 5 false)) (.con (.str "x")) (.con (.str ".")))))])) .nil)) (.cons (.asg 8 0 (.sjn (.con (.str "\n")) (.var 6 true))) (.cons (.ite (.or (.cmp .NotEq (.meth (.var 4 false) "picture" [(.bin .Add (.rev (.var 5 false)) (.sl (.var 5 false) false true [(.con (.int 1))]))]) (.var 8 false)) (.cmp .NotEq (.meth (.var 4 false) "of_picture" [(.var 8 false)]) (.var 5 false))) (.cons (.ret (.con (.bl false))) .nil) .nil) (.cons (.forr [9, 12, 13, 14, 15, 16, 17] (.one 9) .rng1 [(.con (.int 8))] (.cons (.asg 12 0 (.call 12 [(.var 2 false), (.bin .Add (.len (.var 8 false)) (.con (.int 1)))])) (.cons (.asg 13 0 (.sub (.lst [(.con (.str "x")), (.con (.str ".")), (.con (.str "\n")), (.con (.str "")), (.con (.str "X")), (.con (.str " ")), (.con (.str "o"))]) (.call 12 [(.var 2 false), (.con (.int 7))]))) (.cons (.asg 14 0 (.bin .Add (.bin .Add (.sl (.var 8 false) false true [(.var 12 false)]) (.var 13 false)) (.sl (.var 8 false) true false [(.bin .Add (.var 12 false) (.call 12 [(.var 2 false), (.con (.int 2))]))]))) (.cons (.asg 15 0 (.call 12 [(.var 2 false), (.len (.var 6 false))])) (.cons (.asg 16 0 (.sjn (.con (.str "\n")) (.bin .Add (.sl (.var 6 false) false true [(.var 15 false)]) (.sl (.var 6 false) true false [(.bin .Add (.var 15 false) (.con (.int 1)))])))) (.cons (.forr [17] (.one 17) .seq [(.lst [(.var 14 false), (.var 16 false), (.bin .Add (.bin .Add (.var 8 false) (.con (.str "\n"))) (.sub (.var 6 false) (.var 15 false))), (.bin .Add (.var 8 false) (.con (.str "\n"))), (.bin .Add (.con (.str "\n")) (.var 8 false))])] (.cons (.ite (.cmp .NotEq (.call 17 [(.var 4 false), (.var 17 false)]) (.call 16 [(.var 3 false), (.var 17 false)])) (.cons (.ret (.con (.bl false))) .nil) .nil) .nil)) .nil))))))) (.cons (.asg 10 0 (.sub (.lst [(.con .non), (.con (.int 5)), (.lst [(.tup [(.con (.int 0)), (.sub (.var 3 false) (.con (.int 1)))])]), (.con (.str "x")), (.lst [(.tup [(.con (.int 0)), (.con .non)])])]) (.call 12 [(.var 2 false), (.con (.int 5))]))) (.cons (.tri (.cons (.expr (.meth (.var 4 false) "picture" [(.var 10 false)])) .nil) (.cons 3 (some 11) (.cons (.ite (.cmpP .NotEq (.exf 11 "given") (.var 10 false)) (.cons (.ret (.con (.bl false))) .nil) .nil) (.cons .cnt .nil)) .nil)) (.cons (.ret (.con (.bl false))) .nil))))))))))))) (.cons (.ret (.con (.bl true))) .nil))
abbrev F_is_integer : Nat := 0
abbrev F_is_shape : Nat := 1
abbrev F_Shape___init__ : Nat := 2
abbrev F_Shape_cells : Nat := 3
abbrev F_Shape___len__ : Nat := 4
abbrev F_Shape___eq__ : Nat := 5
abbrev F_Shape_has : Nat := 6
abbrev F_Shape_checked : Nat := 7
abbrev F_Shape_picture : Nat := 8
abbrev F_Shape_of_picture : Nat := 9
abbrev F__law_cell : Nat := 10
abbrev F__law_box : Nat := 11
abbrev F__law_take : Nat := 12
abbrev F__law_shape : Nat := 13
abbrev F__law_cells : Nat := 14
abbrev F__law_some : Nat := 15
abbrev F__law_due : Nat := 16
abbrev F__law_read : Nat := 17
abbrev F_law : Nat := 18
abbrev C_Shape : Nat := 0
abbrev C_GridError : Nat := 1
abbrev C_BadShape : Nat := 2
abbrev C_BadCells : Nat := 3
abbrev C_BadLine : Nat := 4
abbrev C_WrongLine : Nat := 5
def es_0 : List Fe := [⟨1, 1, b_is_integer⟩,
  ⟨4, 5, b_is_shape⟩,
  ⟨5, 5, b_Shape___init__⟩,
  ⟨1, 3, b_Shape_cells⟩,
  ⟨1, 1, b_Shape___len__⟩,
  ⟨2, 2, b_Shape___eq__⟩,
  ⟨2, 3, b_Shape_has⟩,
  ⟨2, 3, b_Shape_checked⟩,
  ⟨2, 7, b_Shape_picture⟩,
  ⟨2, 8, b_Shape_of_picture⟩,
  ⟨2, 2, b__law_cell⟩,
  ⟨2, 2, b__law_box⟩,
  ⟨2, 4, b__law_take⟩,
  ⟨2, 4, b__law_shape⟩,
  ⟨1, 4, b__law_cells⟩,
  ⟨2, 4, b__law_some⟩,
  ⟨2, 7, b__law_due⟩,
  ⟨2, 3, b__law_read⟩,
  ⟨1, 19, b_law⟩]
def es : List Fe := es_0
theorem r_is_integer (n : Nat) (ds : List Gc.D) (md : Nat) (S : List (Option Gc.D)) : hcN P es (n + 1) F_is_integer ds md S = runB P (hcN P es n) ⟨1, 1, b_is_integer⟩ ds md S := rfl
theorem r_is_shape (n : Nat) (ds : List Gc.D) (md : Nat) (S : List (Option Gc.D)) : hcN P es (n + 1) F_is_shape ds md S = runB P (hcN P es n) ⟨4, 5, b_is_shape⟩ ds md S := rfl
theorem r_Shape___init__ (n : Nat) (ds : List Gc.D) (md : Nat) (S : List (Option Gc.D)) : hcN P es (n + 1) F_Shape___init__ ds md S = runB P (hcN P es n) ⟨5, 5, b_Shape___init__⟩ ds md S := rfl
theorem r_Shape_cells (n : Nat) (ds : List Gc.D) (md : Nat) (S : List (Option Gc.D)) : hcN P es (n + 1) F_Shape_cells ds md S = runB P (hcN P es n) ⟨1, 3, b_Shape_cells⟩ ds md S := rfl
theorem r_Shape___len__ (n : Nat) (ds : List Gc.D) (md : Nat) (S : List (Option Gc.D)) : hcN P es (n + 1) F_Shape___len__ ds md S = runB P (hcN P es n) ⟨1, 1, b_Shape___len__⟩ ds md S := rfl
theorem r_Shape___eq__ (n : Nat) (ds : List Gc.D) (md : Nat) (S : List (Option Gc.D)) : hcN P es (n + 1) F_Shape___eq__ ds md S = runB P (hcN P es n) ⟨2, 2, b_Shape___eq__⟩ ds md S := rfl
theorem r_Shape_has (n : Nat) (ds : List Gc.D) (md : Nat) (S : List (Option Gc.D)) : hcN P es (n + 1) F_Shape_has ds md S = runB P (hcN P es n) ⟨2, 3, b_Shape_has⟩ ds md S := rfl
theorem r_Shape_checked (n : Nat) (ds : List Gc.D) (md : Nat) (S : List (Option Gc.D)) : hcN P es (n + 1) F_Shape_checked ds md S = runB P (hcN P es n) ⟨2, 3, b_Shape_checked⟩ ds md S := rfl
theorem r_Shape_picture (n : Nat) (ds : List Gc.D) (md : Nat) (S : List (Option Gc.D)) : hcN P es (n + 1) F_Shape_picture ds md S = runB P (hcN P es n) ⟨2, 7, b_Shape_picture⟩ ds md S := rfl
theorem r_Shape_of_picture (n : Nat) (ds : List Gc.D) (md : Nat) (S : List (Option Gc.D)) : hcN P es (n + 1) F_Shape_of_picture ds md S = runB P (hcN P es n) ⟨2, 8, b_Shape_of_picture⟩ ds md S := rfl
theorem r__law_cell (n : Nat) (ds : List Gc.D) (md : Nat) (S : List (Option Gc.D)) : hcN P es (n + 1) F__law_cell ds md S = runB P (hcN P es n) ⟨2, 2, b__law_cell⟩ ds md S := rfl
theorem r__law_box (n : Nat) (ds : List Gc.D) (md : Nat) (S : List (Option Gc.D)) : hcN P es (n + 1) F__law_box ds md S = runB P (hcN P es n) ⟨2, 2, b__law_box⟩ ds md S := rfl
theorem r__law_take (n : Nat) (ds : List Gc.D) (md : Nat) (S : List (Option Gc.D)) : hcN P es (n + 1) F__law_take ds md S = runB P (hcN P es n) ⟨2, 4, b__law_take⟩ ds md S := rfl
theorem r__law_shape (n : Nat) (ds : List Gc.D) (md : Nat) (S : List (Option Gc.D)) : hcN P es (n + 1) F__law_shape ds md S = runB P (hcN P es n) ⟨2, 4, b__law_shape⟩ ds md S := rfl
theorem r__law_cells (n : Nat) (ds : List Gc.D) (md : Nat) (S : List (Option Gc.D)) : hcN P es (n + 1) F__law_cells ds md S = runB P (hcN P es n) ⟨1, 4, b__law_cells⟩ ds md S := rfl
theorem r__law_some (n : Nat) (ds : List Gc.D) (md : Nat) (S : List (Option Gc.D)) : hcN P es (n + 1) F__law_some ds md S = runB P (hcN P es n) ⟨2, 4, b__law_some⟩ ds md S := rfl
theorem r__law_due (n : Nat) (ds : List Gc.D) (md : Nat) (S : List (Option Gc.D)) : hcN P es (n + 1) F__law_due ds md S = runB P (hcN P es n) ⟨2, 7, b__law_due⟩ ds md S := rfl
theorem r__law_read (n : Nat) (ds : List Gc.D) (md : Nat) (S : List (Option Gc.D)) : hcN P es (n + 1) F__law_read ds md S = runB P (hcN P es n) ⟨2, 3, b__law_read⟩ ds md S := rfl
theorem r_law (n : Nat) (ds : List Gc.D) (md : Nat) (S : List (Option Gc.D)) : hcN P es (n + 1) F_law ds md S = runB P (hcN P es n) ⟨1, 19, b_law⟩ ds md S := rfl
theorem st : LSt D es 40 60 where
  tab := by kernel_rfl
  xin := by kernel_rfl
  dec := by
    have h : (List.range fns.length).map dec = es.map fun e => some e.tb := by kernel_rfl
    intro f d e hd he
    have hf : f < fns.length := (List.getElem?_eq_some_iff.mp hd).1
    have q : ((List.range fns.length).map dec)[f]? = (es.map fun e => some e.tb)[f]? := congrArg (fun l => l[f]?) h
    rw [List.getElem?_map, List.getElem?_range hf, List.getElem?_map, he] at q
    have q2 : dec f = some e.tb := Option.some.inj q
    unfold dec at q2
    rw [show fns[f]? = some d from hd] at q2
    exact q2
abbrev R : PySem.W.OpenRow := PySem.W.OpenLaw.row PySem.Challenge.rw_gridcodes_k06_pictures
abbrev hk : PySem.W.Hook := hookL 6 D
def ob (s : PySem.W.SharedT) : AlD × Bool := obL 6 D (HandSHeadRun.getT s)
theorem ob_eq (s : PySem.W.SharedT) : ob s = hk.obs s.abs := obL_eq (HandSHeadRun.getT_eq s)
def lo0 : List Str := ["_wall", "is_integer", "is_shape", "_law_cell", "_law_box", "_law_take", "_law_shape", "_law_cells", "_law_some", "_law_due", "_law_read", "GridError", "BadShape", "BadCells", "BadLine", "WrongLine", "Shape"]
def loose : List Str := lo0
theorem run (w : World) : HandSHeadRun.RunEq R (PySem.W.view R.prog [21]) hk ob 20000 loose w := by
  intro os
  kernel_rfl
end K06

end

section
set_option Elab.async false
set_option linter.all false
set_option maxRecDepth 100000
set_option maxHeartbeats 1000000
namespace K06
open PySem PySem.Spec L2 Gc
open Enc (en)
local macro_rules | `(tactic| contradiction) => `(tactic| ((with_reducible change rdV _ = _); assumption))
local macro_rules | `(tactic| contradiction) => `(tactic| ((with_reducible change isiD _ _ _ _ = _); assumption))
local macro_rules | `(tactic| contradiction) => `(tactic| ((with_reducible change hcN _ _ _ _ _ _ _ = _); assumption))
local macro_rules | `(tactic| contradiction) => `(tactic| with_reducible assumption)
local macro_rules | `(tactic| contradiction) => `(tactic| ((with_reducible change _ ≤ sizeLine); rw [sizeLine_eq]; first | omega | (simp only [List.length_cons, List.length_nil, List.length_map, List.length_range, List.length_zipIdx]; omega)))
local macro_rules | `(tactic| contradiction) => `(tactic| ((with_reducible change @Eq Bool _ _); exact rfl))
local macro_rules | `(tactic| contradiction) => `(tactic| ((with_reducible change wipeT _ _ = _); exact rfl))
local macro_rules | `(tactic| contradiction) => `(tactic| ((with_reducible change wipeT _ _ = wipeT _ _); exact rfl))
local macro_rules | `(tactic| contradiction) => `(tactic| ((with_reducible change @Eq (List Str) _ _); exact rfl))
local macro_rules | `(tactic| contradiction) => `(tactic| ((with_reducible change @Eq Nat _ _); exact rfl))
local macro_rules | `(tactic| contradiction) => `(tactic| ((with_reducible change lenD _ _ = _); exact rfl))
local macro_rules | `(tactic| contradiction) => `(tactic| ((with_reducible change revD _ _ = _); exact rfl))
local macro_rules | `(tactic| contradiction) => `(tactic| ((with_reducible change lookK _ _ _ = _); exact rfl))
local macro_rules | `(tactic| contradiction) => `(tactic| ((with_reducible change isUp _ _ _ = _); exact rfl))
local macro_rules | `(tactic| contradiction) => `(tactic| ((with_reducible change Cl.exc _ = _); exact rfl))
local macro_rules | `(tactic| contradiction) => `(tactic| ((with_reducible change Pg.cl _ _ = _); exact rfl))
local macro_rules | `(tactic| contradiction) => `(tactic| ((with_reducible change lstOk _ _ = _); exact rfl))
local macro_rules | `(tactic| contradiction) => `(tactic| ((with_reducible change optI _ _ _ = _); exact rfl))
local macro_rules | `(tactic| contradiction) => `(tactic| ((with_reducible change seqD _ _ = _); exact rfl))
local macro_rules | `(tactic| contradiction) => `(tactic| ((with_reducible change methD _ _ _ _ = _); exact rfl))
local macro_rules | `(tactic| contradiction) => `(tactic| ((with_reducible change attrD _ _ _ _ = _); exact rfl))
local macro_rules | `(tactic| contradiction) => `(tactic| ((with_reducible change walkD _ _ _ = _); exact rfl))
local macro_rules | `(tactic| contradiction) => `(tactic| ((with_reducible change isiD _ _ _ _ = _); exact rfl))
local macro_rules | `(tactic| contradiction) => `(tactic| ((with_reducible change slD _ _ _ _ = _); exact rfl))
local macro_rules | `(tactic| contradiction) => `(tactic| ((with_reducible change bltD _ _ _ = _); exact rfl))
local macro_rules | `(tactic| contradiction) => `(tactic| ((with_reducible change cmpD _ _ _ _ = _); exact rfl))
local macro_rules | `(tactic| contradiction) => `(tactic| ((with_reducible change subD _ _ _ = _); exact rfl))
local macro_rules | `(tactic| contradiction) => `(tactic| ((with_reducible change truD _ _ = _); exact rfl))
local macro_rules | `(tactic| contradiction) => `(tactic| ((with_reducible change (_ : List _)[_]? = _); exact rfl))
local macro_rules | `(tactic| contradiction) => `(tactic| (intro hk))
local macro_rules | `(tactic| contradiction) => `(tactic| (intro a ha))
local macro_rules | `(tactic| contradiction) => `(tactic| ((with_reducible change Rs.ok _ _ = Rs.ok _ _); with_reducible exact rfl))
local macro_rules | `(tactic| contradiction) => `(tactic| ((with_reducible change _ ∧ List.Nodup _ ∧ _); exact ⟨rfl, by decide, by decide⟩))
local macro_rules | `(tactic| contradiction) => `(tactic| with_reducible exact bind_t4)
local macro_rules | `(tactic| contradiction) => `(tactic| with_reducible exact bind_t3)
local macro_rules | `(tactic| contradiction) => `(tactic| with_reducible exact bind_t2)
local macro_rules | `(tactic| contradiction) => `(tactic| with_reducible exact bind_l3)
local macro_rules | `(tactic| contradiction) => `(tactic| with_reducible exact bind_l4)
local macro_rules | `(tactic| contradiction) => `(tactic| ((with_reducible apply lst_ref); assumption))
local macro_rules | `(tactic| contradiction) => `(tactic| ((with_reducible apply put_ref); assumption; exact rfl))
local macro_rules | `(tactic| contradiction) => `(tactic| ((with_reducible apply len_ref); assumption))
local macro_rules | `(tactic| contradiction) => `(tactic| ((with_reducible apply sub_ref); assumption; exact rfl))
local macro_rules | `(tactic| contradiction) => `(tactic| ((with_reducible refine e_frzL ?_); exact rfl))
local macro_rules | `(tactic| contradiction) => `(tactic| with_reducible exact lst_last)
local macro_rules | `(tactic| contradiction) => `(tactic| ((with_reducible refine app_last ?_); rw [sizeLine_eq]; first | omega | (simp only [List.length_map, List.length_append, List.length_cons, List.length_nil, List.length_range]; omega)))
local macro_rules | `(tactic| contradiction) => `(tactic| ((with_reducible apply fld_last); exact rfl; exact rfl; exact rfl; decide; exact rfl))
local macro_rules | `(tactic| contradiction) => `(tactic| ((with_reducible refine ne_str ?_ ?_) <;> first | assumption | decide +kernel))
local macro_rules | `(tactic| contradiction) => `(tactic| ((with_reducible refine eq_str ?_ ?_) <;> first | assumption | decide +kernel))
local macro_rules | `(tactic| contradiction) => `(tactic| ((with_reducible refine split_k ?_ ?_) <;> first | assumption | omega | decide))
local macro_rules | `(tactic| contradiction) => `(tactic| ((with_reducible refine add_str ?_); first | assumption | omega))
local macro_rules | `(tactic| contradiction) => `(tactic| ((with_reducible refine lenD_str ?_); first | assumption | omega))
local macro_rules | `(tactic| contradiction) => `(tactic| ((with_reducible refine sub_char ?_ ?_ ?_) <;> first | assumption | omega))
local macro_rules | `(tactic| contradiction) => `(tactic| ((with_reducible refine sub_strs ?_ ?_) <;> first | assumption | omega))
local macro_rules | `(tactic| contradiction) => `(tactic| ((with_reducible refine sub_pt ?_ ?_) <;> first | assumption | omega))
local macro_rules | `(tactic| contradiction) => `(tactic| ((with_reducible refine add_lst ?_); rw [sizeLine_eq]; simp only [List.length_map, List.length_append, List.length_cons, List.length_nil, List.length_range]; omega))
local macro_rules | `(tactic| contradiction) => `(tactic| ((with_reducible refine add_map ?_); first | omega | (simp only [List.length_map, List.length_append, List.length_cons, List.length_nil, List.length_range, List.length_reverse, List.length_take]; omega)))
local macro_rules | `(tactic| contradiction) => `(tactic| ((with_reducible refine lrange_k ?_ ?_) <;> omega))
local macro_rules | `(tactic| contradiction) => `(tactic| ((with_reducible refine walk_rng ?_); omega))
local macro_rules | `(tactic| contradiction) => `(tactic| ((with_reducible refine mulS ?_ ?_ ?_ ?_) <;> omega))
local macro_rules | `(tactic| contradiction) => `(tactic| ((with_reducible refine pow_3 ?_ ?_) <;> omega))
local macro_rules | `(tactic| contradiction) => `(tactic| ((with_reducible refine fdv_k ?_ ?_) <;> first | assumption | omega))
local macro_rules | `(tactic| contradiction) => `(tactic| ((with_reducible refine mod_k ?_); first | assumption | omega))
local macro_rules | `(tactic| contradiction) => `(tactic| with_reducible exact notin_sign)
local macro_rules | `(tactic| contradiction) => `(tactic| with_reducible exact in_sign)
local macro_rules | `(tactic| contradiction) => `(tactic| with_reducible exact walk_str)
local macro_rules | `(tactic| contradiction) => `(tactic| with_reducible exact ne_nilR)
local macro_rules | `(tactic| contradiction) => `(tactic| with_reducible exact eq_nilR)
local macro_rules | `(tactic| contradiction) => `(tactic| with_reducible exact rev_k)
local macro_rules | `(tactic| contradiction) => `(tactic| with_reducible exact ne_cells)
local macro_rules | `(tactic| contradiction) => `(tactic| with_reducible exact eq_cells)
local macro_rules | `(tactic| contradiction) => `(tactic| with_reducible exact notin_cell)
local macro_rules | `(tactic| contradiction) => `(tactic| with_reducible exact in_cellt)
local macro_rules | `(tactic| contradiction) => `(tactic| with_reducible exact in_cell)
local macro_rules | `(tactic| contradiction) => `(tactic| with_reducible exact notin_takeT)
local macro_rules | `(tactic| contradiction) => `(tactic| with_reducible exact notin_take)
local macro_rules | `(tactic| contradiction) => `(tactic| with_reducible exact notin_int)
local macro_rules | `(tactic| contradiction) => `(tactic| with_reducible exact in_int)
local macro_rules | `(tactic| contradiction) => `(tactic| with_reducible exact walk_tup)
local macro_rules | `(tactic| contradiction) => `(tactic| with_reducible exact walk_lst)
local macro_rules | `(tactic| contradiction) => `(tactic| with_reducible exact walk_enumt _ _)
local macro_rules | `(tactic| contradiction) => `(tactic| with_reducible exact walk_enum _ _)
local macro_rules | `(tactic| contradiction) => `(tactic| with_reducible exact sl_from)
local macro_rules | `(tactic| contradiction) => `(tactic| with_reducible exact sl_to)
local macro_rules | `(tactic| contradiction) => `(tactic| with_reducible exact slf_map)
local macro_rules | `(tactic| contradiction) => `(tactic| with_reducible exact sl_map)
local macro_rules | `(tactic| contradiction) => `(tactic| with_reducible exact slt_map (by assumption))
local macro_rules | `(tactic| contradiction) => `(tactic| with_reducible exact sum_map _)
local macro_rules | `(tactic| contradiction) => `(tactic| with_reducible exact any_map _ _)
local macro_rules | `(tactic| contradiction) => `(tactic| with_reducible exact all_map _ _)
local macro_rules | `(tactic| contradiction) => `(tactic| with_reducible exact len_tup)
local macro_rules | `(tactic| contradiction) => `(tactic| with_reducible exact len_lst)
local macro_rules | `(tactic| contradiction) => `(tactic| with_reducible exact len_mapt)
local macro_rules | `(tactic| contradiction) => `(tactic| with_reducible exact len_map)
local macro_rules | `(tactic| contradiction) => `(tactic| with_reducible exact lenD_tup)
local macro_rules | `(tactic| contradiction) => `(tactic| with_reducible exact lenD_lst)
local macro_rules | `(tactic| contradiction) => `(tactic| with_reducible exact lenD_map)
local macro_rules | `(tactic| contradiction) => `(tactic| with_reducible exact pow_c)
local macro_rules | `(tactic| contradiction) => `(tactic| with_reducible exact sub_k)
local macro_rules | `(tactic| contradiction) => `(tactic| with_reducible exact add_k)
local macro_rules | `(tactic| contradiction) => `(tactic| with_reducible exact ne_int)
local macro_rules | `(tactic| contradiction) => `(tactic| with_reducible exact eq_int)
local macro_rules | `(tactic| contradiction) => `(tactic| with_reducible apply c_ife)
local macro_rules | `(tactic| contradiction) => `(tactic| with_reducible apply c_andV)
local macro_rules | `(tactic| contradiction) => `(tactic| with_reducible apply c_orV)
local macro_rules | `(tactic| contradiction) => `(tactic| with_reducible apply c_and)
local macro_rules | `(tactic| contradiction) => `(tactic| with_reducible apply c_or)
local macro_rules | `(tactic| contradiction) => `(tactic| ((with_reducible refine c_f ?_ ?_); · (first | with_reducible rfl | with_reducible assumption | ((with_reducible change (!List.any _ _) = _); exact rfl) | ((with_reducible change List.any _ _ = _); exact rfl) | (simp only [Bool.not_true, Bool.not_false, decide_eq_true_eq, decide_eq_false_iff_not, Bool.not_eq_true', Bool.not_eq_false', Int.not_lt, Int.not_le, Bool.or_eq_false_iff, Bool.or_eq_true, Bool.and_eq_true]; omega) | (simp; done))))
local macro_rules | `(tactic| contradiction) => `(tactic| ((with_reducible refine c_t ?_ ?_); · (first | with_reducible rfl | with_reducible assumption | ((with_reducible change (!List.any _ _) = _); exact rfl) | ((with_reducible change List.any _ _ = _); exact rfl) | (simp only [Bool.not_true, Bool.not_false, decide_eq_true_eq, decide_eq_false_iff_not, Bool.not_eq_true', Bool.not_eq_false', Int.not_lt, Int.not_le, Bool.or_eq_false_iff, Bool.or_eq_true, Bool.and_eq_true]; omega) | (simp; done))))
local macro_rules | `(tactic| contradiction) => `(tactic| ((with_reducible refine bk_f ?_ ?_); · (first | with_reducible rfl | with_reducible assumption | ((with_reducible change (!List.any _ _) = _); exact rfl) | ((with_reducible change List.any _ _ = _); exact rfl) | (simp only [Bool.not_true, Bool.not_false, decide_eq_true_eq, decide_eq_false_iff_not, Bool.not_eq_true', Bool.not_eq_false', Int.not_lt, Int.not_le, Bool.or_eq_false_iff, Bool.or_eq_true, Bool.and_eq_true]; omega) | (simp; done))))
local macro_rules | `(tactic| contradiction) => `(tactic| ((with_reducible refine bk_t ?_ ?_); · (first | with_reducible rfl | with_reducible assumption | ((with_reducible change (!List.any _ _) = _); exact rfl) | ((with_reducible change List.any _ _ = _); exact rfl) | (simp only [Bool.not_true, Bool.not_false, decide_eq_true_eq, decide_eq_false_iff_not, Bool.not_eq_true', Bool.not_eq_false', Int.not_lt, Int.not_le, Bool.or_eq_false_iff, Bool.or_eq_true, Bool.and_eq_true]; omega) | (simp; done))))
local macro_rules | `(tactic| contradiction) => `(tactic| with_reducible exact new_1)
local macro_rules | `(tactic| contradiction) => `(tactic| with_reducible exact new_0)
local macro_rules | `(tactic| contradiction) => `(tactic| with_reducible exact fin_l1)
local macro_rules | `(tactic| contradiction) => `(tactic| with_reducible exact fin_l)
local macro_rules | `(tactic| contradiction) => `(tactic| with_reducible exact fin_v)
local macro_rules | `(tactic| contradiction) => `(tactic| with_reducible apply lcb2f)
local macro_rules | `(tactic| contradiction) => `(tactic| with_reducible apply lcb2)
local macro_rules | `(tactic| contradiction) => `(tactic| with_reducible apply lcb1f)
local macro_rules | `(tactic| contradiction) => `(tactic| with_reducible apply lcb1)
local macro_rules | `(tactic| contradiction) => `(tactic| with_reducible apply b_app0)
local macro_rules | `(tactic| contradiction) => `(tactic| with_reducible apply b_app)
local macro_rules | `(tactic| contradiction) => `(tactic| with_reducible exact q_nil)
local macro_rules | `(tactic| contradiction) => `(tactic| with_reducible apply b_par)
local macro_rules | `(tactic| contradiction) => `(tactic| with_reducible exact b_brk)
local macro_rules | `(tactic| contradiction) => `(tactic| with_reducible exact b_cnt)
local macro_rules | `(tactic| contradiction) => `(tactic| with_reducible apply b_unp)
local macro_rules | `(tactic| contradiction) => `(tactic| with_reducible apply b_for rfl)
local macro_rules | `(tactic| contradiction) => `(tactic| with_reducible apply b_pass)
local macro_rules | `(tactic| contradiction) => `(tactic| with_reducible apply b_rse)
local macro_rules | `(tactic| contradiction) => `(tactic| with_reducible apply b_ite)
local macro_rules | `(tactic| contradiction) => `(tactic| with_reducible apply b_expr)
local macro_rules | `(tactic| contradiction) => `(tactic| with_reducible apply b_fld)
local macro_rules | `(tactic| contradiction) => `(tactic| with_reducible apply b_put)
local macro_rules | `(tactic| contradiction) => `(tactic| with_reducible apply b_asg)
local macro_rules | `(tactic| contradiction) => `(tactic| with_reducible exact b_retN)
local macro_rules | `(tactic| contradiction) => `(tactic| with_reducible apply b_ret)
local macro_rules | `(tactic| contradiction) => `(tactic| with_reducible apply t_len)
local macro_rules | `(tactic| contradiction) => `(tactic| with_reducible apply t_var)
local macro_rules | `(tactic| contradiction) => `(tactic| with_reducible apply t_con)
local macro_rules | `(tactic| contradiction) => `(tactic| with_reducible apply e_chn)
local macro_rules | `(tactic| contradiction) => `(tactic| with_reducible apply t_chn)
local macro_rules | `(tactic| contradiction) => `(tactic| with_reducible apply t_meth)
local macro_rules | `(tactic| contradiction) => `(tactic| with_reducible apply t_call)
local macro_rules | `(tactic| contradiction) => `(tactic| with_reducible apply t_blt)
local macro_rules | `(tactic| contradiction) => `(tactic| with_reducible apply t_isi)
local macro_rules | `(tactic| contradiction) => `(tactic| with_reducible apply tc_and)
local macro_rules | `(tactic| contradiction) => `(tactic| with_reducible apply tc_or)
local macro_rules | `(tactic| contradiction) => `(tactic| with_reducible apply t_not)
local macro_rules | `(tactic| contradiction) => `(tactic| with_reducible apply t_cmpP)
local macro_rules | `(tactic| contradiction) => `(tactic| with_reducible apply t_cmp)
local macro_rules | `(tactic| contradiction) => `(tactic| with_reducible exact bind_one)
local macro_rules | `(tactic| contradiction) => `(tactic| with_reducible apply lc2_2)
local macro_rules | `(tactic| contradiction) => `(tactic| with_reducible apply lc2_1)
local macro_rules | `(tactic| contradiction) => `(tactic| with_reducible apply lcFM2)
local macro_rules | `(tactic| contradiction) => `(tactic| with_reducible apply lcFM1)
local macro_rules | `(tactic| contradiction) => `(tactic| with_reducible apply lcF1)
local macro_rules | `(tactic| contradiction) => `(tactic| with_reducible apply e_lcmap)
local macro_rules | `(tactic| contradiction) => `(tactic| with_reducible apply e_lcFM)
local macro_rules | `(tactic| contradiction) => `(tactic| with_reducible apply e_lcF)
local macro_rules | `(tactic| contradiction) => `(tactic| with_reducible apply e_callV)
local macro_rules | `(tactic| contradiction) => `(tactic| with_reducible exact e_fnv)
local macro_rules | `(tactic| contradiction) => `(tactic| with_reducible apply e_sjn)
local macro_rules | `(tactic| contradiction) => `(tactic| with_reducible apply e_ssp)
local macro_rules | `(tactic| contradiction) => `(tactic| with_reducible apply e_rev)
local macro_rules | `(tactic| contradiction) => `(tactic| with_reducible apply e_len)
local macro_rules | `(tactic| contradiction) => `(tactic| with_reducible apply e_dic)
local macro_rules | `(tactic| contradiction) => `(tactic| with_reducible apply e_bm)
local macro_rules | `(tactic| contradiction) => `(tactic| with_reducible apply e_sl)
local macro_rules | `(tactic| contradiction) => `(tactic| with_reducible apply e_callK)
local macro_rules | `(tactic| contradiction) => `(tactic| with_reducible apply e_methK)
local macro_rules | `(tactic| contradiction) => `(tactic| with_reducible apply e_meth)
local macro_rules | `(tactic| contradiction) => `(tactic| with_reducible apply e_call)
local macro_rules | `(tactic| contradiction) => `(tactic| with_reducible apply ec_ife)
local macro_rules | `(tactic| contradiction) => `(tactic| with_reducible apply ec_and)
local macro_rules | `(tactic| contradiction) => `(tactic| with_reducible apply ec_or)
local macro_rules | `(tactic| contradiction) => `(tactic| with_reducible apply e_isi)
local macro_rules | `(tactic| contradiction) => `(tactic| with_reducible apply e_attr)
local macro_rules | `(tactic| contradiction) => `(tactic| with_reducible apply l_star)
local macro_rules | `(tactic| contradiction) => `(tactic| with_reducible apply l_cons rfl)
local macro_rules | `(tactic| contradiction) => `(tactic| with_reducible exact l_nil)
local macro_rules | `(tactic| contradiction) => `(tactic| with_reducible apply e_lst)
local macro_rules | `(tactic| contradiction) => `(tactic| with_reducible apply e_tup)
local macro_rules | `(tactic| contradiction) => `(tactic| with_reducible apply e_cmpP)
local macro_rules | `(tactic| contradiction) => `(tactic| with_reducible apply e_cmp)
local macro_rules | `(tactic| contradiction) => `(tactic| with_reducible apply e_neg)
local macro_rules | `(tactic| contradiction) => `(tactic| with_reducible apply e_not)
local macro_rules | `(tactic| contradiction) => `(tactic| with_reducible apply e_blt)
local macro_rules | `(tactic| contradiction) => `(tactic| with_reducible apply e_sub)
local macro_rules | `(tactic| contradiction) => `(tactic| with_reducible apply e_bin)
local macro_rules | `(tactic| contradiction) => `(tactic| with_reducible apply e_var)
local macro_rules | `(tactic| contradiction) => `(tactic| with_reducible exact e_cnon)
local macro_rules | `(tactic| contradiction) => `(tactic| with_reducible exact e_cbl)
local macro_rules | `(tactic| contradiction) => `(tactic| with_reducible exact e_cstr)
local macro_rules | `(tactic| contradiction) => `(tactic| with_reducible exact e_cint)
theorem is_integer_int (n : Nat) (i : Int) (md : Nat) (S) : hcN P es (n + 1) F_is_integer [.int i] md S = .ok (.bl true) S := rfl
local macro_rules | `(tactic| contradiction) => `(tactic| with_reducible exact is_integer_int _ _ _ _)
abbrev borneD (a b : Int) : Gc.D := .dK [Sum.inr "row", Sum.inr "column"] [.int b, .int a]
abbrev shapeD (h w : Nat) (a b : Int) : Gc.D := .obj C_Shape ["height", "width", "borne"] [.int h, .int w, borneD a b]
structure ShOk (h w : Nat) (a b : Int) : Prop where
  h1 : 1 ≤ h
  h5 : h ≤ 6
  w1 : 1 ≤ w
  w5 : w ≤ 6
  a0 : 0 ≤ a
  ah : a < h
  b0 : 0 ≤ b
  bw : b < w
def isShape (r c a b : Int) : Bool := (decide (0 ≤ a) && decide (a < r)) && (decide (0 ≤ b) && decide (b < c))
theorem is_shape_k (n : Nat) (r c a b : Int) (md : Nat) (S) : hcN P es (n + 2) F_is_shape [.int r, .int c, .int a, .int b] md S = .ok (.bl (isShape r c a b)) S := by
  rw [r_is_shape]
  apply runR (τ0 := [some (.int r), some (.int c), some (.int a), some (.int b), none]) rfl rfl
  have hw : walkD S .seq [.tup [.int r, .int c, .int a, .int b]] = some ([r, c, a, b].map D.int) := rfl
  have ht : (!([r, c, a, b].all fun _ => true)) = false := rfl
  repeat contradiction
  all_goals rfl
theorem init_k (n : Nat) {h w : Nat} {a b : Int} (C : ShOk h w a b) (S : List (Option Gc.D)) : hcN P es (n + 3) F_Shape___init__ [.ref S.length, .int h, .int w, .int a, .int b] 0 (S ++ [some (.obj C_Shape [] [])]) = .ok .non (S ++ [some (shapeD h w a b)]) := by
  have hs : (!isShape h w a b) = false := by
    unfold isShape
    simp [C.a0, C.ah, C.b0, C.bw]
  have hk := is_shape_k n h w a b 0 (S ++ [some (.obj C_Shape [] [])])
  rw [r_Shape___init__]
  apply runN (τ0 := [some (.ref S.length), some (.int h), some (.int w), some (.int a), some (.int b)]) rfl rfl
  repeat contradiction
  all_goals rfl
/-- all cells -/
def cells (h w : Nat) : List (Int × Int) := (List.range h).flatMap fun i : Nat => (List.range w).map fun j : Nat => ((i : Int), (j : Int))
theorem cells_len (h w : Nat) : (cells h w).length = h * w := by
  unfold cells
  rw [List.length_flatMap]
  simp only [List.length_map, List.length_range, sum_const]
theorem cells_k (n : Nat) (h w : Nat) (a b : Int) (hh : h ≤ 6) (hw : w ≤ 6) (S) : hcN P es (n + 1) F_Shape_cells [shapeD h w a b] 0 S = .ok (.lst ((cells h w).map enC)) S := by
  rw [r_Shape_cells]
  apply runR (τ0 := [some (shapeD h w a b), none, none]) rfl rfl
  apply b_ret
  · apply e_lc2 (l := List.range h) (en := fun k : Nat => D.int (k : Int)) (fun _ : Nat => List.range w) (fun _ (k : Nat) => D.int (k : Int)) (fun (i j : Nat) => D.tup [.int (i : Int), .int (j : Int)])
    · repeat contradiction
    · exact walk_rng (by omega)
    · rw [sizeLine_eq]
      have := cells_len h w
      have e : ((List.range h).flatMap fun _ : Nat => List.range w).length = h * w := by rw [List.length_flatMap]; simp only [List.length_range, sum_const]
      rw [e]
      have := Nat.mul_le_mul hh hw
      omega
    · intro i hi
      repeat contradiction
    · exact new_0
  · congr 1
    unfold cells
    simp [List.map_flatMap, Function.comp_def]
  · rfl
local macro_rules | `(tactic| contradiction) => `(tactic| with_reducible exact cells_k _ _ _ _ _ (by assumption) (by assumption) _)
/-- a cell -/
def isCell (h w : Nat) (c : Int × Int) : Bool := (decide (0 ≤ c.1) && decide (c.1 < (h : Int))) && (decide (0 ≤ c.2) && decide (c.2 < (w : Int)))
theorem has_k (n : Nat) (h w : Nat) (a b : Int) (c : Int × Int) (md : Nat) (S) : hcN P es (n + 2) F_Shape_has [shapeD h w a b, enC c] md S = .ok (.bl (isCell h w c)) S := by
  rw [r_Shape_has]
  apply runR (τ0 := [some (shapeD h w a b), some (enC c), none]) rfl rfl
  have hw : walkD S .seq [.tup [.int c.1, .int c.2]] = some ([c.1, c.2].map D.int) := rfl
  have ht : (!([c.1, c.2].all fun _ => true)) = false := rfl
  repeat contradiction
  all_goals rfl
local macro_rules | `(tactic| contradiction) => `(tactic| with_reducible exact has_k _ _ _ _ _ _ _ _)
theorem checked_l (n : Nat) (h w : Nat) (a b : Int) (hh : h ≤ 6) (hw : w ≤ 6) (l : List (Int × Int)) (hl : l.length ≤ 1000) (hc : l.all (isCell h w) = true) (S) : hcN P es (n + 3) F_Shape_checked [shapeD h w a b, .lst (l.map enC)] 0 S = .ok (.lst (((cells h w).filter fun c => decide (c ∈ l)).map enC)) S := by
  rw [r_Shape_checked]
  have hc' : (!(l.all fun c => isCell h w c)) = false := by rw [hc]; rfl
  have hn := cells_len h w
  have hm := Nat.mul_le_mul hh hw
  apply runR (τ0 := [some (shapeD h w a b), some (.lst (l.map enC)), none]) rfl rfl
  repeat contradiction
  all_goals rfl
end K06

end

section
set_option Elab.async false
set_option linter.all false
set_option maxRecDepth 100000
set_option maxHeartbeats 1000000
namespace K06
open PySem PySem.Spec L2 Gc
open Enc (en)
local macro_rules | `(tactic| contradiction) => `(tactic| ((with_reducible change rdV _ = _); assumption))
local macro_rules | `(tactic| contradiction) => `(tactic| ((with_reducible change isiD _ _ _ _ = _); assumption))
local macro_rules | `(tactic| contradiction) => `(tactic| ((with_reducible change hcN _ _ _ _ _ _ _ = _); assumption))
local macro_rules | `(tactic| contradiction) => `(tactic| with_reducible assumption)
local macro_rules | `(tactic| contradiction) => `(tactic| ((with_reducible change _ ≤ sizeLine); rw [sizeLine_eq]; first | omega | (simp only [List.length_cons, List.length_nil, List.length_map, List.length_range, List.length_zipIdx]; omega)))
local macro_rules | `(tactic| contradiction) => `(tactic| ((with_reducible change @Eq Bool _ _); exact rfl))
local macro_rules | `(tactic| contradiction) => `(tactic| ((with_reducible change wipeT _ _ = _); exact rfl))
local macro_rules | `(tactic| contradiction) => `(tactic| ((with_reducible change wipeT _ _ = wipeT _ _); exact rfl))
local macro_rules | `(tactic| contradiction) => `(tactic| ((with_reducible change @Eq (List Str) _ _); exact rfl))
local macro_rules | `(tactic| contradiction) => `(tactic| ((with_reducible change @Eq Nat _ _); exact rfl))
local macro_rules | `(tactic| contradiction) => `(tactic| ((with_reducible change lenD _ _ = _); exact rfl))
local macro_rules | `(tactic| contradiction) => `(tactic| ((with_reducible change revD _ _ = _); exact rfl))
local macro_rules | `(tactic| contradiction) => `(tactic| ((with_reducible change lookK _ _ _ = _); exact rfl))
local macro_rules | `(tactic| contradiction) => `(tactic| ((with_reducible change isUp _ _ _ = _); exact rfl))
local macro_rules | `(tactic| contradiction) => `(tactic| ((with_reducible change Cl.exc _ = _); exact rfl))
local macro_rules | `(tactic| contradiction) => `(tactic| ((with_reducible change Pg.cl _ _ = _); exact rfl))
local macro_rules | `(tactic| contradiction) => `(tactic| ((with_reducible change lstOk _ _ = _); exact rfl))
local macro_rules | `(tactic| contradiction) => `(tactic| ((with_reducible change optI _ _ _ = _); exact rfl))
local macro_rules | `(tactic| contradiction) => `(tactic| ((with_reducible change seqD _ _ = _); exact rfl))
local macro_rules | `(tactic| contradiction) => `(tactic| ((with_reducible change methD _ _ _ _ = _); exact rfl))
local macro_rules | `(tactic| contradiction) => `(tactic| ((with_reducible change attrD _ _ _ _ = _); exact rfl))
local macro_rules | `(tactic| contradiction) => `(tactic| ((with_reducible change walkD _ _ _ = _); exact rfl))
local macro_rules | `(tactic| contradiction) => `(tactic| ((with_reducible change isiD _ _ _ _ = _); exact rfl))
local macro_rules | `(tactic| contradiction) => `(tactic| ((with_reducible change slD _ _ _ _ = _); exact rfl))
local macro_rules | `(tactic| contradiction) => `(tactic| ((with_reducible change bltD _ _ _ = _); exact rfl))
local macro_rules | `(tactic| contradiction) => `(tactic| ((with_reducible change cmpD _ _ _ _ = _); exact rfl))
local macro_rules | `(tactic| contradiction) => `(tactic| ((with_reducible change subD _ _ _ = _); exact rfl))
local macro_rules | `(tactic| contradiction) => `(tactic| ((with_reducible change truD _ _ = _); exact rfl))
local macro_rules | `(tactic| contradiction) => `(tactic| ((with_reducible change (_ : List _)[_]? = _); exact rfl))
local macro_rules | `(tactic| contradiction) => `(tactic| (intro hk))
local macro_rules | `(tactic| contradiction) => `(tactic| (intro a ha))
local macro_rules | `(tactic| contradiction) => `(tactic| ((with_reducible change Rs.ok _ _ = Rs.ok _ _); with_reducible exact rfl))
local macro_rules | `(tactic| contradiction) => `(tactic| ((with_reducible change _ ∧ List.Nodup _ ∧ _); exact ⟨rfl, by decide, by decide⟩))
local macro_rules | `(tactic| contradiction) => `(tactic| with_reducible exact bind_t4)
local macro_rules | `(tactic| contradiction) => `(tactic| with_reducible exact bind_t3)
local macro_rules | `(tactic| contradiction) => `(tactic| with_reducible exact bind_t2)
local macro_rules | `(tactic| contradiction) => `(tactic| with_reducible exact bind_l3)
local macro_rules | `(tactic| contradiction) => `(tactic| with_reducible exact bind_l4)
local macro_rules | `(tactic| contradiction) => `(tactic| ((with_reducible apply lst_ref); assumption))
local macro_rules | `(tactic| contradiction) => `(tactic| ((with_reducible apply put_ref); assumption; exact rfl))
local macro_rules | `(tactic| contradiction) => `(tactic| ((with_reducible apply len_ref); assumption))
local macro_rules | `(tactic| contradiction) => `(tactic| ((with_reducible apply sub_ref); assumption; exact rfl))
local macro_rules | `(tactic| contradiction) => `(tactic| ((with_reducible refine e_frzL ?_); exact rfl))
local macro_rules | `(tactic| contradiction) => `(tactic| with_reducible exact lst_last)
local macro_rules | `(tactic| contradiction) => `(tactic| ((with_reducible refine app_last ?_); rw [sizeLine_eq]; first | omega | (simp only [List.length_map, List.length_append, List.length_cons, List.length_nil, List.length_range]; omega)))
local macro_rules | `(tactic| contradiction) => `(tactic| ((with_reducible apply fld_last); exact rfl; exact rfl; exact rfl; decide; exact rfl))
local macro_rules | `(tactic| contradiction) => `(tactic| ((with_reducible refine ne_str ?_ ?_) <;> first | assumption | decide +kernel))
local macro_rules | `(tactic| contradiction) => `(tactic| ((with_reducible refine eq_str ?_ ?_) <;> first | assumption | decide +kernel))
local macro_rules | `(tactic| contradiction) => `(tactic| ((with_reducible refine split_k ?_ ?_) <;> first | assumption | omega | decide))
local macro_rules | `(tactic| contradiction) => `(tactic| ((with_reducible refine add_str ?_); first | assumption | omega))
local macro_rules | `(tactic| contradiction) => `(tactic| ((with_reducible refine lenD_str ?_); first | assumption | omega))
local macro_rules | `(tactic| contradiction) => `(tactic| ((with_reducible refine sub_char ?_ ?_ ?_) <;> first | assumption | omega))
local macro_rules | `(tactic| contradiction) => `(tactic| ((with_reducible refine sub_strs ?_ ?_) <;> first | assumption | omega))
local macro_rules | `(tactic| contradiction) => `(tactic| ((with_reducible refine sub_pt ?_ ?_) <;> first | assumption | omega))
local macro_rules | `(tactic| contradiction) => `(tactic| ((with_reducible refine add_lst ?_); rw [sizeLine_eq]; simp only [List.length_map, List.length_append, List.length_cons, List.length_nil, List.length_range]; omega))
local macro_rules | `(tactic| contradiction) => `(tactic| ((with_reducible refine add_map ?_); first | omega | (simp only [List.length_map, List.length_append, List.length_cons, List.length_nil, List.length_range, List.length_reverse, List.length_take]; omega)))
local macro_rules | `(tactic| contradiction) => `(tactic| ((with_reducible refine lrange_k ?_ ?_) <;> omega))
local macro_rules | `(tactic| contradiction) => `(tactic| ((with_reducible refine walk_rng ?_); omega))
local macro_rules | `(tactic| contradiction) => `(tactic| ((with_reducible refine mulS ?_ ?_ ?_ ?_) <;> omega))
local macro_rules | `(tactic| contradiction) => `(tactic| ((with_reducible refine pow_3 ?_ ?_) <;> omega))
local macro_rules | `(tactic| contradiction) => `(tactic| ((with_reducible refine fdv_k ?_ ?_) <;> first | assumption | omega))
local macro_rules | `(tactic| contradiction) => `(tactic| ((with_reducible refine mod_k ?_); first | assumption | omega))
local macro_rules | `(tactic| contradiction) => `(tactic| with_reducible exact notin_sign)
local macro_rules | `(tactic| contradiction) => `(tactic| with_reducible exact in_sign)
local macro_rules | `(tactic| contradiction) => `(tactic| with_reducible exact walk_str)
local macro_rules | `(tactic| contradiction) => `(tactic| with_reducible exact ne_nilR)
local macro_rules | `(tactic| contradiction) => `(tactic| with_reducible exact eq_nilR)
local macro_rules | `(tactic| contradiction) => `(tactic| with_reducible exact rev_k)
local macro_rules | `(tactic| contradiction) => `(tactic| with_reducible exact ne_cells)
local macro_rules | `(tactic| contradiction) => `(tactic| with_reducible exact eq_cells)
local macro_rules | `(tactic| contradiction) => `(tactic| with_reducible exact notin_cell)
local macro_rules | `(tactic| contradiction) => `(tactic| with_reducible exact in_cellt)
local macro_rules | `(tactic| contradiction) => `(tactic| with_reducible exact in_cell)
local macro_rules | `(tactic| contradiction) => `(tactic| with_reducible exact notin_takeT)
local macro_rules | `(tactic| contradiction) => `(tactic| with_reducible exact notin_take)
local macro_rules | `(tactic| contradiction) => `(tactic| with_reducible exact notin_int)
local macro_rules | `(tactic| contradiction) => `(tactic| with_reducible exact in_int)
local macro_rules | `(tactic| contradiction) => `(tactic| with_reducible exact walk_tup)
local macro_rules | `(tactic| contradiction) => `(tactic| with_reducible exact walk_lst)
local macro_rules | `(tactic| contradiction) => `(tactic| with_reducible exact walk_enumt _ _)
local macro_rules | `(tactic| contradiction) => `(tactic| with_reducible exact walk_enum _ _)
local macro_rules | `(tactic| contradiction) => `(tactic| with_reducible exact sl_from)
local macro_rules | `(tactic| contradiction) => `(tactic| with_reducible exact sl_to)
local macro_rules | `(tactic| contradiction) => `(tactic| with_reducible exact slf_map)
local macro_rules | `(tactic| contradiction) => `(tactic| with_reducible exact sl_map)
local macro_rules | `(tactic| contradiction) => `(tactic| with_reducible exact slt_map (by assumption))
local macro_rules | `(tactic| contradiction) => `(tactic| with_reducible exact sum_map _)
local macro_rules | `(tactic| contradiction) => `(tactic| with_reducible exact any_map _ _)
local macro_rules | `(tactic| contradiction) => `(tactic| with_reducible exact all_map _ _)
local macro_rules | `(tactic| contradiction) => `(tactic| with_reducible exact len_tup)
local macro_rules | `(tactic| contradiction) => `(tactic| with_reducible exact len_lst)
local macro_rules | `(tactic| contradiction) => `(tactic| with_reducible exact len_mapt)
local macro_rules | `(tactic| contradiction) => `(tactic| with_reducible exact len_map)
local macro_rules | `(tactic| contradiction) => `(tactic| with_reducible exact lenD_tup)
local macro_rules | `(tactic| contradiction) => `(tactic| with_reducible exact lenD_lst)
local macro_rules | `(tactic| contradiction) => `(tactic| with_reducible exact lenD_map)
local macro_rules | `(tactic| contradiction) => `(tactic| with_reducible exact pow_c)
local macro_rules | `(tactic| contradiction) => `(tactic| with_reducible exact sub_k)
local macro_rules | `(tactic| contradiction) => `(tactic| with_reducible exact add_k)
local macro_rules | `(tactic| contradiction) => `(tactic| with_reducible exact ne_int)
local macro_rules | `(tactic| contradiction) => `(tactic| with_reducible exact eq_int)
local macro_rules | `(tactic| contradiction) => `(tactic| with_reducible apply c_ife)
local macro_rules | `(tactic| contradiction) => `(tactic| with_reducible apply c_andV)
local macro_rules | `(tactic| contradiction) => `(tactic| with_reducible apply c_orV)
local macro_rules | `(tactic| contradiction) => `(tactic| with_reducible apply c_and)
local macro_rules | `(tactic| contradiction) => `(tactic| with_reducible apply c_or)
local macro_rules | `(tactic| contradiction) => `(tactic| ((with_reducible refine c_f ?_ ?_); · (first | with_reducible rfl | with_reducible assumption | ((with_reducible change (!List.any _ _) = _); exact rfl) | ((with_reducible change List.any _ _ = _); exact rfl) | (simp only [Bool.not_true, Bool.not_false, decide_eq_true_eq, decide_eq_false_iff_not, Bool.not_eq_true', Bool.not_eq_false', Int.not_lt, Int.not_le, Bool.or_eq_false_iff, Bool.or_eq_true, Bool.and_eq_true]; omega) | (simp; done))))
local macro_rules | `(tactic| contradiction) => `(tactic| ((with_reducible refine c_t ?_ ?_); · (first | with_reducible rfl | with_reducible assumption | ((with_reducible change (!List.any _ _) = _); exact rfl) | ((with_reducible change List.any _ _ = _); exact rfl) | (simp only [Bool.not_true, Bool.not_false, decide_eq_true_eq, decide_eq_false_iff_not, Bool.not_eq_true', Bool.not_eq_false', Int.not_lt, Int.not_le, Bool.or_eq_false_iff, Bool.or_eq_true, Bool.and_eq_true]; omega) | (simp; done))))
local macro_rules | `(tactic| contradiction) => `(tactic| ((with_reducible refine bk_f ?_ ?_); · (first | with_reducible rfl | with_reducible assumption | ((with_reducible change (!List.any _ _) = _); exact rfl) | ((with_reducible change List.any _ _ = _); exact rfl) | (simp only [Bool.not_true, Bool.not_false, decide_eq_true_eq, decide_eq_false_iff_not, Bool.not_eq_true', Bool.not_eq_false', Int.not_lt, Int.not_le, Bool.or_eq_false_iff, Bool.or_eq_true, Bool.and_eq_true]; omega) | (simp; done))))
local macro_rules | `(tactic| contradiction) => `(tactic| ((with_reducible refine bk_t ?_ ?_); · (first | with_reducible rfl | with_reducible assumption | ((with_reducible change (!List.any _ _) = _); exact rfl) | ((with_reducible change List.any _ _ = _); exact rfl) | (simp only [Bool.not_true, Bool.not_false, decide_eq_true_eq, decide_eq_false_iff_not, Bool.not_eq_true', Bool.not_eq_false', Int.not_lt, Int.not_le, Bool.or_eq_false_iff, Bool.or_eq_true, Bool.and_eq_true]; omega) | (simp; done))))
local macro_rules | `(tactic| contradiction) => `(tactic| with_reducible exact new_1)
local macro_rules | `(tactic| contradiction) => `(tactic| with_reducible exact new_0)
local macro_rules | `(tactic| contradiction) => `(tactic| with_reducible exact fin_l1)
local macro_rules | `(tactic| contradiction) => `(tactic| with_reducible exact fin_l)
local macro_rules | `(tactic| contradiction) => `(tactic| with_reducible exact fin_v)
local macro_rules | `(tactic| contradiction) => `(tactic| with_reducible apply lcb2f)
local macro_rules | `(tactic| contradiction) => `(tactic| with_reducible apply lcb2)
local macro_rules | `(tactic| contradiction) => `(tactic| with_reducible apply lcb1f)
local macro_rules | `(tactic| contradiction) => `(tactic| with_reducible apply lcb1)
local macro_rules | `(tactic| contradiction) => `(tactic| with_reducible apply b_app0)
local macro_rules | `(tactic| contradiction) => `(tactic| with_reducible apply b_app)
local macro_rules | `(tactic| contradiction) => `(tactic| with_reducible exact q_nil)
local macro_rules | `(tactic| contradiction) => `(tactic| with_reducible apply b_par)
local macro_rules | `(tactic| contradiction) => `(tactic| with_reducible exact b_brk)
local macro_rules | `(tactic| contradiction) => `(tactic| with_reducible exact b_cnt)
local macro_rules | `(tactic| contradiction) => `(tactic| with_reducible apply b_unp)
local macro_rules | `(tactic| contradiction) => `(tactic| with_reducible apply b_for rfl)
local macro_rules | `(tactic| contradiction) => `(tactic| with_reducible apply b_pass)
local macro_rules | `(tactic| contradiction) => `(tactic| with_reducible apply b_rse)
local macro_rules | `(tactic| contradiction) => `(tactic| with_reducible apply b_ite)
local macro_rules | `(tactic| contradiction) => `(tactic| with_reducible apply b_expr)
local macro_rules | `(tactic| contradiction) => `(tactic| with_reducible apply b_fld)
local macro_rules | `(tactic| contradiction) => `(tactic| with_reducible apply b_put)
local macro_rules | `(tactic| contradiction) => `(tactic| with_reducible apply b_asg)
local macro_rules | `(tactic| contradiction) => `(tactic| with_reducible exact b_retN)
local macro_rules | `(tactic| contradiction) => `(tactic| with_reducible apply b_ret)
local macro_rules | `(tactic| contradiction) => `(tactic| with_reducible apply t_len)
local macro_rules | `(tactic| contradiction) => `(tactic| with_reducible apply t_var)
local macro_rules | `(tactic| contradiction) => `(tactic| with_reducible apply t_con)
local macro_rules | `(tactic| contradiction) => `(tactic| with_reducible apply e_chn)
local macro_rules | `(tactic| contradiction) => `(tactic| with_reducible apply t_chn)
local macro_rules | `(tactic| contradiction) => `(tactic| with_reducible apply t_meth)
local macro_rules | `(tactic| contradiction) => `(tactic| with_reducible apply t_call)
local macro_rules | `(tactic| contradiction) => `(tactic| with_reducible apply t_blt)
local macro_rules | `(tactic| contradiction) => `(tactic| with_reducible apply t_isi)
local macro_rules | `(tactic| contradiction) => `(tactic| with_reducible apply tc_and)
local macro_rules | `(tactic| contradiction) => `(tactic| with_reducible apply tc_or)
local macro_rules | `(tactic| contradiction) => `(tactic| with_reducible apply t_not)
local macro_rules | `(tactic| contradiction) => `(tactic| with_reducible apply t_cmpP)
local macro_rules | `(tactic| contradiction) => `(tactic| with_reducible apply t_cmp)
local macro_rules | `(tactic| contradiction) => `(tactic| with_reducible exact bind_one)
local macro_rules | `(tactic| contradiction) => `(tactic| with_reducible apply lc2_2)
local macro_rules | `(tactic| contradiction) => `(tactic| with_reducible apply lc2_1)
local macro_rules | `(tactic| contradiction) => `(tactic| with_reducible apply lcFM2)
local macro_rules | `(tactic| contradiction) => `(tactic| with_reducible apply lcFM1)
local macro_rules | `(tactic| contradiction) => `(tactic| with_reducible apply lcF1)
local macro_rules | `(tactic| contradiction) => `(tactic| with_reducible apply e_lcmap)
local macro_rules | `(tactic| contradiction) => `(tactic| with_reducible apply e_lcFM)
local macro_rules | `(tactic| contradiction) => `(tactic| with_reducible apply e_lcF)
local macro_rules | `(tactic| contradiction) => `(tactic| with_reducible apply e_callV)
local macro_rules | `(tactic| contradiction) => `(tactic| with_reducible exact e_fnv)
local macro_rules | `(tactic| contradiction) => `(tactic| with_reducible apply e_sjn)
local macro_rules | `(tactic| contradiction) => `(tactic| with_reducible apply e_ssp)
local macro_rules | `(tactic| contradiction) => `(tactic| with_reducible apply e_rev)
local macro_rules | `(tactic| contradiction) => `(tactic| with_reducible apply e_len)
local macro_rules | `(tactic| contradiction) => `(tactic| with_reducible apply e_dic)
local macro_rules | `(tactic| contradiction) => `(tactic| with_reducible apply e_bm)
local macro_rules | `(tactic| contradiction) => `(tactic| with_reducible apply e_sl)
local macro_rules | `(tactic| contradiction) => `(tactic| with_reducible apply e_callK)
local macro_rules | `(tactic| contradiction) => `(tactic| with_reducible apply e_methK)
local macro_rules | `(tactic| contradiction) => `(tactic| with_reducible apply e_meth)
local macro_rules | `(tactic| contradiction) => `(tactic| with_reducible apply e_call)
local macro_rules | `(tactic| contradiction) => `(tactic| with_reducible apply ec_ife)
local macro_rules | `(tactic| contradiction) => `(tactic| with_reducible apply ec_and)
local macro_rules | `(tactic| contradiction) => `(tactic| with_reducible apply ec_or)
local macro_rules | `(tactic| contradiction) => `(tactic| with_reducible apply e_isi)
local macro_rules | `(tactic| contradiction) => `(tactic| with_reducible apply e_attr)
local macro_rules | `(tactic| contradiction) => `(tactic| with_reducible apply l_star)
local macro_rules | `(tactic| contradiction) => `(tactic| with_reducible apply l_cons rfl)
local macro_rules | `(tactic| contradiction) => `(tactic| with_reducible exact l_nil)
local macro_rules | `(tactic| contradiction) => `(tactic| with_reducible apply e_lst)
local macro_rules | `(tactic| contradiction) => `(tactic| with_reducible apply e_tup)
local macro_rules | `(tactic| contradiction) => `(tactic| with_reducible apply e_cmpP)
local macro_rules | `(tactic| contradiction) => `(tactic| with_reducible apply e_cmp)
local macro_rules | `(tactic| contradiction) => `(tactic| with_reducible apply e_neg)
local macro_rules | `(tactic| contradiction) => `(tactic| with_reducible apply e_not)
local macro_rules | `(tactic| contradiction) => `(tactic| with_reducible apply e_blt)
local macro_rules | `(tactic| contradiction) => `(tactic| with_reducible apply e_sub)
local macro_rules | `(tactic| contradiction) => `(tactic| with_reducible apply e_bin)
local macro_rules | `(tactic| contradiction) => `(tactic| with_reducible apply e_var)
local macro_rules | `(tactic| contradiction) => `(tactic| with_reducible exact e_cnon)
local macro_rules | `(tactic| contradiction) => `(tactic| with_reducible exact e_cbl)
local macro_rules | `(tactic| contradiction) => `(tactic| with_reducible exact e_cstr)
local macro_rules | `(tactic| contradiction) => `(tactic| with_reducible exact e_cint)
local macro_rules | `(tactic| contradiction) => `(tactic| with_reducible exact is_integer_int _ _ _ _)
local macro_rules | `(tactic| contradiction) => `(tactic| with_reducible exact cells_k _ _ _ _ _ (by assumption) (by assumption) _)
local macro_rules | `(tactic| contradiction) => `(tactic| with_reducible exact has_k _ _ _ _ _ _ _ _)
theorem checked_no (n : Nat) (h w : Nat) (a b : Int) (d : Gc.D) (md : Nat) (S) (hd : rdV d = true) (hi : isiD P S d [.list, .tuple] = some false) : hcN P es (n + 3) F_Shape_checked [shapeD h w a b, d] md S = .exn C_BadCells ["given"] [d] S := by
  rw [r_Shape_checked]
  apply runX (τ0 := [some (shapeD h w a b), some d, none]) rfl rfl
  repeat contradiction
  all_goals rfl
theorem has_non (n : Nat) (h w : Nat) (a b : Int) (md : Nat) (S) : hcN P es (n + 2) F_Shape_has [shapeD h w a b, .tup [.int 0, .non]] md S = .ok (.bl false) S := rfl
theorem checked_out (n : Nat) (h w : Nat) (a b : Int) (md : Nat) (S) : hcN P es (n + 3) F_Shape_checked [shapeD h w a b, .lst [.tup [.int 0, .int w]]] md S = .exn C_BadCells ["given"] [.lst [.tup [.int 0, .int w]]] S := by
  rw [r_Shape_checked]
  have hw : walkD S .seq [.lst [.tup [.int 0, .int w]]] = some ([((0 : Int), (w : Int))].map enC) := rfl
  have hc : (!([((0 : Int), (w : Int))].all (isCell h w))) = true := by simp [isCell]
  apply runX (τ0 := [some (shapeD h w a b), some (.lst [.tup [.int 0, .int w]]), none]) rfl rfl
  repeat contradiction
  all_goals rfl
theorem checked_nn (n : Nat) (h w : Nat) (a b : Int) (md : Nat) (S) : hcN P es (n + 3) F_Shape_checked [shapeD h w a b, .lst [.tup [.int 0, .non]]] md S = .exn C_BadCells ["given"] [.lst [.tup [.int 0, .non]]] S := rfl
/-- a row of a picture -/
def sgn (l : List (Int × Int)) (c : Int × Int) : Str := cond (decide (c ∈ l)) "x" "."
def rowT (w : Nat) (l : List (Int × Int)) (i : Nat) : Str := Txt.join "" ((List.range w).map fun j : Nat => sgn l ((i : Int), (j : Int)))
def pic (h w : Nat) (l : List (Int × Int)) : Str := Txt.join "\n" ((List.range h).map (rowT w l))
theorem join_len (y : Str) (ys : List Str) : (Txt.join y ys).length ≤ (ys.map (·.length)).sum + ys.length * y.length := by
  rw [TL.join_eq]; exact StrLaws.join_length_le y ys
theorem sum_le {α : Type} (f : α → Nat) (m : Nat) : ∀ l : List α, (∀ a ∈ l, f a ≤ m) → (l.map f).sum ≤ l.length * m
  | [], _ => by simp
  | a :: l, h => by
    have h1 := h a List.mem_cons_self
    have h2 := sum_le f m l fun b hb => h b (List.mem_cons_of_mem _ hb)
    rw [List.map_cons, List.sum_cons, List.length_cons, Nat.succ_mul]; omega
theorem sgn_len (l : List (Int × Int)) (c : Int × Int) : (sgn l c).length = 1 := by unfold sgn; cases decide (c ∈ l) <;> rfl
theorem rowT_len (w : Nat) (l : List (Int × Int)) (i : Nat) : (rowT w l i).length ≤ w := by
  unfold rowT
  refine Nat.le_trans (join_len _ _) ?_
  have := sum_le (fun x : Str => x.length) 1 ((List.range w).map fun j : Nat => sgn l ((i : Int), (j : Int))) (fun a ha => by
    obtain ⟨j, _, e⟩ := List.mem_map.mp ha
    rw [← e]; exact Nat.le_of_eq (sgn_len _ _))
  rw [List.length_map, List.length_range] at this ⊢
  show _ + w * 0 ≤ w
  omega
theorem pic_len (h w : Nat) (l : List (Int × Int)) (hh : h ≤ 6) (hw : w ≤ 6) : (pic h w l).length ≤ 42 := by
  unfold pic
  refine Nat.le_trans (join_len _ _) ?_
  have := sum_le (fun x : Str => x.length) 6 ((List.range h).map (rowT w l)) (fun a ha => by
    obtain ⟨j, _, e⟩ := List.mem_map.mp ha
    rw [← e]; exact Nat.le_trans (rowT_len _ _ _) hw)
  rw [List.length_map, List.length_range] at this ⊢
  show _ + h * 1 ≤ 42
  omega
theorem row_join (S) (w : Nat) (l : List (Int × Int)) (i : Nat) (hw : w ≤ 6) : joinD S "" (.lst ((List.range w).map fun j : Nat => cond (decide (((i : Int), (j : Int)) ∈ l)) (.str "x") (.str "."))) = some (.str (rowT w l i)) := by
  have ee : (fun j : Nat => cond (decide (((i : Int), (j : Int)) ∈ l)) (D.str "x") (.str ".")) = fun j : Nat => .str (sgn l ((i : Int), (j : Int))) := by
    funext j; unfold sgn; cases decide (((i : Int), (j : Int)) ∈ l) <;> rfl
  rw [ee]
  refine join_k (fun j : Nat => sgn l ((i : Int), (j : Int))) ?_
  have := sum_le (fun x : Str => x.length) 1 ((List.range w).map fun j : Nat => sgn l ((i : Int), (j : Int))) (fun a ha => by
    obtain ⟨j, _, e⟩ := List.mem_map.mp ha
    rw [← e]; exact Nat.le_of_eq (sgn_len _ _))
  rw [List.length_map, List.length_range] at this
  rw [List.length_range]
  show _ + w * 0 ≤ _
  omega
theorem pic_join (S) (h w : Nat) (l : List (Int × Int)) (hh : h ≤ 6) (hw : w ≤ 6) : joinD S "\n" (.lst ((List.range h).map fun i : Nat => .str (rowT w l i))) = some (.str (pic h w l)) := by
  refine join_k (rowT w l) ?_
  have := sum_le (fun x : Str => x.length) 6 ((List.range h).map (rowT w l)) (fun a ha => by
    obtain ⟨j, _, e⟩ := List.mem_map.mp ha
    rw [← e]; exact Nat.le_trans (rowT_len _ _ _) hw)
  rw [List.length_map, List.length_range] at this
  rw [List.length_range]
  show _ + h * 1 ≤ _
  omega
theorem picture_k (n : Nat) (h w : Nat) (a b : Int) (hh : h ≤ 6) (hw : w ≤ 6) (l : List (Int × Int)) (hl : l.length ≤ 1000) (hc : l.all (isCell h w) = true) (S) :
    hcN P es (n + 4) F_Shape_picture [shapeD h w a b, .lst (l.map enC)] 0 S = .ok (.str (pic h w ((cells h w).filter fun c => decide (c ∈ l)))) S := by
  have hk := checked_l n h w a b hh hw l hl hc S
  generalize (cells h w).filter (fun c => decide (c ∈ l)) = g at hk ⊢
  rw [r_Shape_picture]
  apply runR (τ0 := [some (shapeD h w a b), some (.lst (l.map enC)), none, none, none, none, none]) rfl rfl
  repeat contradiction
  · exact row_join _ w g _ hw
  repeat contradiction
  · exact pic_join _ h w g hh hw
  repeat contradiction
  all_goals rfl
end K06

end

section
set_option Elab.async false
set_option linter.all false
set_option maxRecDepth 100000
set_option maxHeartbeats 1000000
namespace K06
open PySem PySem.Spec L2 Gc
open Enc (en)
local macro_rules | `(tactic| contradiction) => `(tactic| ((with_reducible change rdV _ = _); assumption))
local macro_rules | `(tactic| contradiction) => `(tactic| ((with_reducible change isiD _ _ _ _ = _); assumption))
local macro_rules | `(tactic| contradiction) => `(tactic| ((with_reducible change hcN _ _ _ _ _ _ _ = _); assumption))
local macro_rules | `(tactic| contradiction) => `(tactic| with_reducible assumption)
local macro_rules | `(tactic| contradiction) => `(tactic| ((with_reducible change _ ≤ sizeLine); rw [sizeLine_eq]; first | omega | (simp only [List.length_cons, List.length_nil, List.length_map, List.length_range, List.length_zipIdx]; omega)))
local macro_rules | `(tactic| contradiction) => `(tactic| ((with_reducible change @Eq Bool _ _); exact rfl))
local macro_rules | `(tactic| contradiction) => `(tactic| ((with_reducible change wipeT _ _ = _); exact rfl))
local macro_rules | `(tactic| contradiction) => `(tactic| ((with_reducible change wipeT _ _ = wipeT _ _); exact rfl))
local macro_rules | `(tactic| contradiction) => `(tactic| ((with_reducible change @Eq (List Str) _ _); exact rfl))
local macro_rules | `(tactic| contradiction) => `(tactic| ((with_reducible change @Eq Nat _ _); exact rfl))
local macro_rules | `(tactic| contradiction) => `(tactic| ((with_reducible change lenD _ _ = _); exact rfl))
local macro_rules | `(tactic| contradiction) => `(tactic| ((with_reducible change revD _ _ = _); exact rfl))
local macro_rules | `(tactic| contradiction) => `(tactic| ((with_reducible change lookK _ _ _ = _); exact rfl))
local macro_rules | `(tactic| contradiction) => `(tactic| ((with_reducible change isUp _ _ _ = _); exact rfl))
local macro_rules | `(tactic| contradiction) => `(tactic| ((with_reducible change Cl.exc _ = _); exact rfl))
local macro_rules | `(tactic| contradiction) => `(tactic| ((with_reducible change Pg.cl _ _ = _); exact rfl))
local macro_rules | `(tactic| contradiction) => `(tactic| ((with_reducible change lstOk _ _ = _); exact rfl))
local macro_rules | `(tactic| contradiction) => `(tactic| ((with_reducible change optI _ _ _ = _); exact rfl))
local macro_rules | `(tactic| contradiction) => `(tactic| ((with_reducible change seqD _ _ = _); exact rfl))
local macro_rules | `(tactic| contradiction) => `(tactic| ((with_reducible change methD _ _ _ _ = _); exact rfl))
local macro_rules | `(tactic| contradiction) => `(tactic| ((with_reducible change attrD _ _ _ _ = _); exact rfl))
local macro_rules | `(tactic| contradiction) => `(tactic| ((with_reducible change walkD _ _ _ = _); exact rfl))
local macro_rules | `(tactic| contradiction) => `(tactic| ((with_reducible change isiD _ _ _ _ = _); exact rfl))
local macro_rules | `(tactic| contradiction) => `(tactic| ((with_reducible change slD _ _ _ _ = _); exact rfl))
local macro_rules | `(tactic| contradiction) => `(tactic| ((with_reducible change bltD _ _ _ = _); exact rfl))
local macro_rules | `(tactic| contradiction) => `(tactic| ((with_reducible change cmpD _ _ _ _ = _); exact rfl))
local macro_rules | `(tactic| contradiction) => `(tactic| ((with_reducible change subD _ _ _ = _); exact rfl))
local macro_rules | `(tactic| contradiction) => `(tactic| ((with_reducible change truD _ _ = _); exact rfl))
local macro_rules | `(tactic| contradiction) => `(tactic| ((with_reducible change (_ : List _)[_]? = _); exact rfl))
local macro_rules | `(tactic| contradiction) => `(tactic| (intro hk))
local macro_rules | `(tactic| contradiction) => `(tactic| (intro a ha))
local macro_rules | `(tactic| contradiction) => `(tactic| ((with_reducible change Rs.ok _ _ = Rs.ok _ _); with_reducible exact rfl))
local macro_rules | `(tactic| contradiction) => `(tactic| ((with_reducible change _ ∧ List.Nodup _ ∧ _); exact ⟨rfl, by decide, by decide⟩))
local macro_rules | `(tactic| contradiction) => `(tactic| with_reducible exact bind_t4)
local macro_rules | `(tactic| contradiction) => `(tactic| with_reducible exact bind_t3)
local macro_rules | `(tactic| contradiction) => `(tactic| with_reducible exact bind_t2)
local macro_rules | `(tactic| contradiction) => `(tactic| with_reducible exact bind_l3)
local macro_rules | `(tactic| contradiction) => `(tactic| with_reducible exact bind_l4)
local macro_rules | `(tactic| contradiction) => `(tactic| ((with_reducible apply lst_ref); assumption))
local macro_rules | `(tactic| contradiction) => `(tactic| ((with_reducible apply put_ref); assumption; exact rfl))
local macro_rules | `(tactic| contradiction) => `(tactic| ((with_reducible apply len_ref); assumption))
local macro_rules | `(tactic| contradiction) => `(tactic| ((with_reducible apply sub_ref); assumption; exact rfl))
local macro_rules | `(tactic| contradiction) => `(tactic| ((with_reducible refine e_frzL ?_); exact rfl))
local macro_rules | `(tactic| contradiction) => `(tactic| with_reducible exact lst_last)
local macro_rules | `(tactic| contradiction) => `(tactic| ((with_reducible refine app_last ?_); rw [sizeLine_eq]; first | omega | (simp only [List.length_map, List.length_append, List.length_cons, List.length_nil, List.length_range]; omega)))
local macro_rules | `(tactic| contradiction) => `(tactic| ((with_reducible apply fld_last); exact rfl; exact rfl; exact rfl; decide; exact rfl))
local macro_rules | `(tactic| contradiction) => `(tactic| ((with_reducible refine ne_str ?_ ?_) <;> first | assumption | decide +kernel))
local macro_rules | `(tactic| contradiction) => `(tactic| ((with_reducible refine eq_str ?_ ?_) <;> first | assumption | decide +kernel))
local macro_rules | `(tactic| contradiction) => `(tactic| ((with_reducible refine split_k ?_ ?_) <;> first | assumption | omega | decide))
local macro_rules | `(tactic| contradiction) => `(tactic| ((with_reducible refine add_str ?_); first | assumption | omega))
local macro_rules | `(tactic| contradiction) => `(tactic| ((with_reducible refine lenD_str ?_); first | assumption | omega))
local macro_rules | `(tactic| contradiction) => `(tactic| ((with_reducible refine sub_char ?_ ?_ ?_) <;> first | assumption | omega))
local macro_rules | `(tactic| contradiction) => `(tactic| ((with_reducible refine sub_strs ?_ ?_) <;> first | assumption | omega))
local macro_rules | `(tactic| contradiction) => `(tactic| ((with_reducible refine sub_pt ?_ ?_) <;> first | assumption | omega))
local macro_rules | `(tactic| contradiction) => `(tactic| ((with_reducible refine add_lst ?_); rw [sizeLine_eq]; simp only [List.length_map, List.length_append, List.length_cons, List.length_nil, List.length_range]; omega))
local macro_rules | `(tactic| contradiction) => `(tactic| ((with_reducible refine add_map ?_); first | omega | (simp only [List.length_map, List.length_append, List.length_cons, List.length_nil, List.length_range, List.length_reverse, List.length_take]; omega)))
local macro_rules | `(tactic| contradiction) => `(tactic| ((with_reducible refine lrange_k ?_ ?_) <;> omega))
local macro_rules | `(tactic| contradiction) => `(tactic| ((with_reducible refine walk_rng ?_); omega))
local macro_rules | `(tactic| contradiction) => `(tactic| ((with_reducible refine mulS ?_ ?_ ?_ ?_) <;> omega))
local macro_rules | `(tactic| contradiction) => `(tactic| ((with_reducible refine pow_3 ?_ ?_) <;> omega))
local macro_rules | `(tactic| contradiction) => `(tactic| ((with_reducible refine fdv_k ?_ ?_) <;> first | assumption | omega))
local macro_rules | `(tactic| contradiction) => `(tactic| ((with_reducible refine mod_k ?_); first | assumption | omega))
local macro_rules | `(tactic| contradiction) => `(tactic| with_reducible exact notin_sign)
local macro_rules | `(tactic| contradiction) => `(tactic| with_reducible exact in_sign)
local macro_rules | `(tactic| contradiction) => `(tactic| with_reducible exact walk_str)
local macro_rules | `(tactic| contradiction) => `(tactic| with_reducible exact ne_nilR)
local macro_rules | `(tactic| contradiction) => `(tactic| with_reducible exact eq_nilR)
local macro_rules | `(tactic| contradiction) => `(tactic| with_reducible exact rev_k)
local macro_rules | `(tactic| contradiction) => `(tactic| with_reducible exact ne_cells)
local macro_rules | `(tactic| contradiction) => `(tactic| with_reducible exact eq_cells)
local macro_rules | `(tactic| contradiction) => `(tactic| with_reducible exact notin_cell)
local macro_rules | `(tactic| contradiction) => `(tactic| with_reducible exact in_cellt)
local macro_rules | `(tactic| contradiction) => `(tactic| with_reducible exact in_cell)
local macro_rules | `(tactic| contradiction) => `(tactic| with_reducible exact notin_takeT)
local macro_rules | `(tactic| contradiction) => `(tactic| with_reducible exact notin_take)
local macro_rules | `(tactic| contradiction) => `(tactic| with_reducible exact notin_int)
local macro_rules | `(tactic| contradiction) => `(tactic| with_reducible exact in_int)
local macro_rules | `(tactic| contradiction) => `(tactic| with_reducible exact walk_tup)
local macro_rules | `(tactic| contradiction) => `(tactic| with_reducible exact walk_lst)
local macro_rules | `(tactic| contradiction) => `(tactic| with_reducible exact walk_enumt _ _)
local macro_rules | `(tactic| contradiction) => `(tactic| with_reducible exact walk_enum _ _)
local macro_rules | `(tactic| contradiction) => `(tactic| with_reducible exact sl_from)
local macro_rules | `(tactic| contradiction) => `(tactic| with_reducible exact sl_to)
local macro_rules | `(tactic| contradiction) => `(tactic| with_reducible exact slf_map)
local macro_rules | `(tactic| contradiction) => `(tactic| with_reducible exact sl_map)
local macro_rules | `(tactic| contradiction) => `(tactic| with_reducible exact slt_map (by assumption))
local macro_rules | `(tactic| contradiction) => `(tactic| with_reducible exact sum_map _)
local macro_rules | `(tactic| contradiction) => `(tactic| with_reducible exact any_map _ _)
local macro_rules | `(tactic| contradiction) => `(tactic| with_reducible exact all_map _ _)
local macro_rules | `(tactic| contradiction) => `(tactic| with_reducible exact len_tup)
local macro_rules | `(tactic| contradiction) => `(tactic| with_reducible exact len_lst)
local macro_rules | `(tactic| contradiction) => `(tactic| with_reducible exact len_mapt)
local macro_rules | `(tactic| contradiction) => `(tactic| with_reducible exact len_map)
local macro_rules | `(tactic| contradiction) => `(tactic| with_reducible exact lenD_tup)
local macro_rules | `(tactic| contradiction) => `(tactic| with_reducible exact lenD_lst)
local macro_rules | `(tactic| contradiction) => `(tactic| with_reducible exact lenD_map)
local macro_rules | `(tactic| contradiction) => `(tactic| with_reducible exact pow_c)
local macro_rules | `(tactic| contradiction) => `(tactic| with_reducible exact sub_k)
local macro_rules | `(tactic| contradiction) => `(tactic| with_reducible exact add_k)
local macro_rules | `(tactic| contradiction) => `(tactic| with_reducible exact ne_int)
local macro_rules | `(tactic| contradiction) => `(tactic| with_reducible exact eq_int)
local macro_rules | `(tactic| contradiction) => `(tactic| with_reducible apply c_ife)
local macro_rules | `(tactic| contradiction) => `(tactic| with_reducible apply c_andV)
local macro_rules | `(tactic| contradiction) => `(tactic| with_reducible apply c_orV)
local macro_rules | `(tactic| contradiction) => `(tactic| with_reducible apply c_and)
local macro_rules | `(tactic| contradiction) => `(tactic| with_reducible apply c_or)
local macro_rules | `(tactic| contradiction) => `(tactic| ((with_reducible refine c_f ?_ ?_); · (first | with_reducible rfl | with_reducible assumption | ((with_reducible change (!List.any _ _) = _); exact rfl) | ((with_reducible change List.any _ _ = _); exact rfl) | (simp only [Bool.not_true, Bool.not_false, decide_eq_true_eq, decide_eq_false_iff_not, Bool.not_eq_true', Bool.not_eq_false', Int.not_lt, Int.not_le, Bool.or_eq_false_iff, Bool.or_eq_true, Bool.and_eq_true]; omega) | (simp; done))))
local macro_rules | `(tactic| contradiction) => `(tactic| ((with_reducible refine c_t ?_ ?_); · (first | with_reducible rfl | with_reducible assumption | ((with_reducible change (!List.any _ _) = _); exact rfl) | ((with_reducible change List.any _ _ = _); exact rfl) | (simp only [Bool.not_true, Bool.not_false, decide_eq_true_eq, decide_eq_false_iff_not, Bool.not_eq_true', Bool.not_eq_false', Int.not_lt, Int.not_le, Bool.or_eq_false_iff, Bool.or_eq_true, Bool.and_eq_true]; omega) | (simp; done))))
local macro_rules | `(tactic| contradiction) => `(tactic| ((with_reducible refine bk_f ?_ ?_); · (first | with_reducible rfl | with_reducible assumption | ((with_reducible change (!List.any _ _) = _); exact rfl) | ((with_reducible change List.any _ _ = _); exact rfl) | (simp only [Bool.not_true, Bool.not_false, decide_eq_true_eq, decide_eq_false_iff_not, Bool.not_eq_true', Bool.not_eq_false', Int.not_lt, Int.not_le, Bool.or_eq_false_iff, Bool.or_eq_true, Bool.and_eq_true]; omega) | (simp; done))))
local macro_rules | `(tactic| contradiction) => `(tactic| ((with_reducible refine bk_t ?_ ?_); · (first | with_reducible rfl | with_reducible assumption | ((with_reducible change (!List.any _ _) = _); exact rfl) | ((with_reducible change List.any _ _ = _); exact rfl) | (simp only [Bool.not_true, Bool.not_false, decide_eq_true_eq, decide_eq_false_iff_not, Bool.not_eq_true', Bool.not_eq_false', Int.not_lt, Int.not_le, Bool.or_eq_false_iff, Bool.or_eq_true, Bool.and_eq_true]; omega) | (simp; done))))
local macro_rules | `(tactic| contradiction) => `(tactic| with_reducible exact new_1)
local macro_rules | `(tactic| contradiction) => `(tactic| with_reducible exact new_0)
local macro_rules | `(tactic| contradiction) => `(tactic| with_reducible exact fin_l1)
local macro_rules | `(tactic| contradiction) => `(tactic| with_reducible exact fin_l)
local macro_rules | `(tactic| contradiction) => `(tactic| with_reducible exact fin_v)
local macro_rules | `(tactic| contradiction) => `(tactic| with_reducible apply lcb2f)
local macro_rules | `(tactic| contradiction) => `(tactic| with_reducible apply lcb2)
local macro_rules | `(tactic| contradiction) => `(tactic| with_reducible apply lcb1f)
local macro_rules | `(tactic| contradiction) => `(tactic| with_reducible apply lcb1)
local macro_rules | `(tactic| contradiction) => `(tactic| with_reducible apply b_app0)
local macro_rules | `(tactic| contradiction) => `(tactic| with_reducible apply b_app)
local macro_rules | `(tactic| contradiction) => `(tactic| with_reducible exact q_nil)
local macro_rules | `(tactic| contradiction) => `(tactic| with_reducible apply b_par)
local macro_rules | `(tactic| contradiction) => `(tactic| with_reducible exact b_brk)
local macro_rules | `(tactic| contradiction) => `(tactic| with_reducible exact b_cnt)
local macro_rules | `(tactic| contradiction) => `(tactic| with_reducible apply b_unp)
local macro_rules | `(tactic| contradiction) => `(tactic| with_reducible apply b_for rfl)
local macro_rules | `(tactic| contradiction) => `(tactic| with_reducible apply b_pass)
local macro_rules | `(tactic| contradiction) => `(tactic| with_reducible apply b_rse)
local macro_rules | `(tactic| contradiction) => `(tactic| with_reducible apply b_ite)
local macro_rules | `(tactic| contradiction) => `(tactic| with_reducible apply b_expr)
local macro_rules | `(tactic| contradiction) => `(tactic| with_reducible apply b_fld)
local macro_rules | `(tactic| contradiction) => `(tactic| with_reducible apply b_put)
local macro_rules | `(tactic| contradiction) => `(tactic| with_reducible apply b_asg)
local macro_rules | `(tactic| contradiction) => `(tactic| with_reducible exact b_retN)
local macro_rules | `(tactic| contradiction) => `(tactic| with_reducible apply b_ret)
local macro_rules | `(tactic| contradiction) => `(tactic| with_reducible apply t_len)
local macro_rules | `(tactic| contradiction) => `(tactic| with_reducible apply t_var)
local macro_rules | `(tactic| contradiction) => `(tactic| with_reducible apply t_con)
local macro_rules | `(tactic| contradiction) => `(tactic| with_reducible apply e_chn)
local macro_rules | `(tactic| contradiction) => `(tactic| with_reducible apply t_chn)
local macro_rules | `(tactic| contradiction) => `(tactic| with_reducible apply t_meth)
local macro_rules | `(tactic| contradiction) => `(tactic| with_reducible apply t_call)
local macro_rules | `(tactic| contradiction) => `(tactic| with_reducible apply t_blt)
local macro_rules | `(tactic| contradiction) => `(tactic| with_reducible apply t_isi)
local macro_rules | `(tactic| contradiction) => `(tactic| with_reducible apply tc_and)
local macro_rules | `(tactic| contradiction) => `(tactic| with_reducible apply tc_or)
local macro_rules | `(tactic| contradiction) => `(tactic| with_reducible apply t_not)
local macro_rules | `(tactic| contradiction) => `(tactic| with_reducible apply t_cmpP)
local macro_rules | `(tactic| contradiction) => `(tactic| with_reducible apply t_cmp)
local macro_rules | `(tactic| contradiction) => `(tactic| with_reducible exact bind_one)
local macro_rules | `(tactic| contradiction) => `(tactic| with_reducible apply lc2_2)
local macro_rules | `(tactic| contradiction) => `(tactic| with_reducible apply lc2_1)
local macro_rules | `(tactic| contradiction) => `(tactic| with_reducible apply lcFM2)
local macro_rules | `(tactic| contradiction) => `(tactic| with_reducible apply lcFM1)
local macro_rules | `(tactic| contradiction) => `(tactic| with_reducible apply lcF1)
local macro_rules | `(tactic| contradiction) => `(tactic| with_reducible apply e_lcmap)
local macro_rules | `(tactic| contradiction) => `(tactic| with_reducible apply e_lcFM)
local macro_rules | `(tactic| contradiction) => `(tactic| with_reducible apply e_lcF)
local macro_rules | `(tactic| contradiction) => `(tactic| with_reducible apply e_callV)
local macro_rules | `(tactic| contradiction) => `(tactic| with_reducible exact e_fnv)
local macro_rules | `(tactic| contradiction) => `(tactic| with_reducible apply e_sjn)
local macro_rules | `(tactic| contradiction) => `(tactic| with_reducible apply e_ssp)
local macro_rules | `(tactic| contradiction) => `(tactic| with_reducible apply e_rev)
local macro_rules | `(tactic| contradiction) => `(tactic| with_reducible apply e_len)
local macro_rules | `(tactic| contradiction) => `(tactic| with_reducible apply e_dic)
local macro_rules | `(tactic| contradiction) => `(tactic| with_reducible apply e_bm)
local macro_rules | `(tactic| contradiction) => `(tactic| with_reducible apply e_sl)
local macro_rules | `(tactic| contradiction) => `(tactic| with_reducible apply e_callK)
local macro_rules | `(tactic| contradiction) => `(tactic| with_reducible apply e_methK)
local macro_rules | `(tactic| contradiction) => `(tactic| with_reducible apply e_meth)
local macro_rules | `(tactic| contradiction) => `(tactic| with_reducible apply e_call)
local macro_rules | `(tactic| contradiction) => `(tactic| with_reducible apply ec_ife)
local macro_rules | `(tactic| contradiction) => `(tactic| with_reducible apply ec_and)
local macro_rules | `(tactic| contradiction) => `(tactic| with_reducible apply ec_or)
local macro_rules | `(tactic| contradiction) => `(tactic| with_reducible apply e_isi)
local macro_rules | `(tactic| contradiction) => `(tactic| with_reducible apply e_attr)
local macro_rules | `(tactic| contradiction) => `(tactic| with_reducible apply l_star)
local macro_rules | `(tactic| contradiction) => `(tactic| with_reducible apply l_cons rfl)
local macro_rules | `(tactic| contradiction) => `(tactic| with_reducible exact l_nil)
local macro_rules | `(tactic| contradiction) => `(tactic| with_reducible apply e_lst)
local macro_rules | `(tactic| contradiction) => `(tactic| with_reducible apply e_tup)
local macro_rules | `(tactic| contradiction) => `(tactic| with_reducible apply e_cmpP)
local macro_rules | `(tactic| contradiction) => `(tactic| with_reducible apply e_cmp)
local macro_rules | `(tactic| contradiction) => `(tactic| with_reducible apply e_neg)
local macro_rules | `(tactic| contradiction) => `(tactic| with_reducible apply e_not)
local macro_rules | `(tactic| contradiction) => `(tactic| with_reducible apply e_blt)
local macro_rules | `(tactic| contradiction) => `(tactic| with_reducible apply e_sub)
local macro_rules | `(tactic| contradiction) => `(tactic| with_reducible apply e_bin)
local macro_rules | `(tactic| contradiction) => `(tactic| with_reducible apply e_var)
local macro_rules | `(tactic| contradiction) => `(tactic| with_reducible exact e_cnon)
local macro_rules | `(tactic| contradiction) => `(tactic| with_reducible exact e_cbl)
local macro_rules | `(tactic| contradiction) => `(tactic| with_reducible exact e_cstr)
local macro_rules | `(tactic| contradiction) => `(tactic| with_reducible exact e_cint)
local macro_rules | `(tactic| contradiction) => `(tactic| with_reducible exact is_integer_int _ _ _ _)
local macro_rules | `(tactic| contradiction) => `(tactic| with_reducible exact cells_k _ _ _ _ _ (by assumption) (by assumption) _)
/-- the lines of a text -/
def lns (x : Str) : List Str := Txt.split x "\n"
theorem split_lns {x : Str} (hx : x.length ≤ 300) : splitD x "\n" = some (.l ((lns x).map .str)) := split_k (by decide) (by omega)
local macro_rules | `(tactic| contradiction) => `(tactic| with_reducible exact split_lns (by assumption))
/-- a line that cannot stand there -/
def badL (h w : Nat) (k : Nat) (y : Str) : Bool := decide ((k : Int) = h) || (!decide ((y.length : Int) = w) || !(y.cps.toList.all fun c => decide (c ∈ ("x." : Str).cps.toList)))
def fstB (h w : Nat) (ls : List Str) : Option (Str × Nat) := ls.zipIdx.find? fun q => badL h w q.2 q.1
/-- the sign at a cell -/
def sg (ls : List Str) (c : Int × Int) : Str := ⟨#[(ls.getD c.1.toNat Str.empty).cps.toList.getD c.2.toNat 0]⟩
def lostOf (h w : Nat) (ls : List Str) : List (Int × Int) := (cells h w).filter fun c => decide (sg ls c = "x")
/-- what a text tells -/
def told (h w : Nat) (x : Str) : Nat ⊕ List (Int × Int) := match fstB h w (lns x) with
  | some q => .inl (q.2 + 1)
  | none => if (lns x).length < h then .inl ((lns x).length + 1) else .inr (lostOf h w (lns x))
theorem cells_mem {h w : Nat} {c : Int × Int} (hc : c ∈ cells h w) : 0 ≤ c.1 ∧ c.1 < h ∧ 0 ≤ c.2 ∧ c.2 < w := by
  unfold cells at hc
  obtain ⟨i, hi, hc⟩ := List.mem_flatMap.mp hc
  obtain ⟨j, hj, e⟩ := List.mem_map.mp hc
  have := List.mem_range.mp hi
  have := List.mem_range.mp hj
  subst e
  omega
theorem fstB_none {h w : Nat} {ls : List Str} (hf : fstB h w ls = none) {k : Nat} (hk : k < ls.length) : k ≠ h ∧ (ls.getD k Str.empty).length = w := by
  unfold fstB at hf
  have := List.find?_eq_none.mp hf (ls[k], k) (by rw [List.mem_zipIdx_iff_getElem?]; simp [hk])
  unfold badL at this
  simp only [Bool.or_eq_true, decide_eq_true_eq, Bool.not_eq_true', decide_eq_false_iff_not, not_or, Classical.not_not] at this
  obtain ⟨h1, h2, _⟩ := this
  rw [List.getD_eq_getElem?_getD, List.getElem?_eq_getElem hk]
  exact ⟨by omega, by simp only [Option.getD_some]; omega⟩
theorem line_ok {x : Str} (hx : x.length ≤ 300) (ho : PyData.strOk x = true) {y : Str} (hy : y ∈ lns x) : y.length ≤ 300 ∧ PyData.strOk y = true := by
  obtain ⟨h1, h2⟩ := split_part hy
  exact ⟨by omega, strOk_iff.mpr fun c hc => strOk_iff.mp ho c (h2 c hc)⟩
theorem sg_ok {x : Str} (ho : PyData.strOk x = true) (c : Int × Int) : PyData.strOk (sg (lns x) c) = true := by
  refine strOk_iff.mpr fun u hu => ?_
  unfold sg at hu
  have e : u = ((lns x).getD c.1.toNat Str.empty).cps.toList.getD c.2.toNat 0 := by simpa using hu
  rw [e, List.getD_eq_getElem?_getD, List.getD_eq_getElem?_getD]
  cases q : (lns x)[c.1.toNat]? with
  | none => simp [Str.empty]
  | some y =>
    simp only [Option.getD_some]
    cases q2 : y.cps.toList[c.2.toNat]? with
    | none => simp
    | some v => simp only [Option.getD_some]; exact strOk_iff.mp ho v ((split_part (List.mem_of_getElem? q)).2 v (List.mem_of_getElem? q2))
theorem of_picture_k (n : Nat) (h w : Nat) (a b : Int) (hh : h ≤ 6) (hw : w ≤ 6) (x : Str) (hx : x.length ≤ 300) (ho : PyData.strOk x = true) (md : Nat) (hm : md = 0) (S) : hcN P es (n + 2) F_Shape_of_picture [shapeD h w a b, .str x] md S = (match told h w x with
    | .inl k => .exn C_WrongLine ["line"] [.int k] S
    | .inr l => .ok (.lst (l.map enC)) S) := by
  subst hm
  rw [r_Shape_of_picture]
  have hlen : (lns x).length ≤ x.length + 1 := split_many (by decide)
  have lineq : ∀ q ∈ (lns x).zipIdx, q.1.length ≤ 300 ∧ PyData.strOk q.1 = true ∧ q.1.cps.toList.length ≤ 300 := fun q hq => by
    have hq1 : q.1 ∈ lns x := by
      obtain ⟨y, k⟩ := q
      have := List.mem_zipIdx_iff_getElem?.mp hq
      exact List.mem_of_getElem? this
    obtain ⟨l1, l2⟩ := line_ok hx ho hq1
    refine ⟨l1, l2, ?_⟩
    have e : q.1.cps.toList.length = q.1.length := by simp [Str.length]
    omega
  cases hf : (lns x).zipIdx.find? (fun q => badL h w q.2 q.1) with
  | some q =>
    have et : told h w x = .inl (q.2 + 1) := by unfold told fstB; rw [hf]
    rw [et]
    apply runX (τ0 := [some (shapeD h w a b), some (.str x), none, none, none, none, none, none]) rfl rfl
    · apply b_asg
      · repeat contradiction
      · apply b_forX rfl
        · repeat contradiction
        · exact walk_enum D.str (lns x)
        · refine for_hit hf ?_ ?_ (fun q hq hp => by
            obtain ⟨l1, l2, l3⟩ := lineq q hq
            unfold badL at hp
            apply turn2
            repeat contradiction)
          · obtain ⟨l1, l2, l3⟩ := lineq q (List.mem_of_find?_eq_some hf)
            have hp := List.find?_some hf
            unfold badL at hp
            apply turn2x
            repeat contradiction
          · rfl
    all_goals rfl
  | none =>
    have hno := @fstB_none h w (lns x) hf
    by_cases hs : (lns x).length < h
    · have et : told h w x = .inl ((lns x).length + 1) := by unfold told fstB; rw [hf]; simp only [if_pos hs]
      rw [et]
      apply runX (τ0 := [some (shapeD h w a b), some (.str x), none, none, none, none, none, none]) rfl rfl
      · apply b_asg
        · repeat contradiction
        · apply b_for rfl
          · repeat contradiction
          · exact walk_enum D.str (lns x)
          · refine for_miss hf (fun q hq hp => by
            obtain ⟨l1, l2, l3⟩ := lineq q hq
            unfold badL at hp
            apply turn2
            repeat contradiction)
          · repeat contradiction
      all_goals rfl
    · have et : told h w x = .inr (lostOf h w (lns x)) := by unfold told fstB; rw [hf]; simp only [if_neg hs]
      rw [et]
      have hcl : (cells h w).length ≤ 36 := by rw [cells_len]; exact Nat.mul_le_mul hh hw
      apply runR (τ0 := [some (shapeD h w a b), some (.str x), none, none, none, none, none, none]) rfl rfl
      · apply b_asg
        · repeat contradiction
        · apply b_for rfl
          · repeat contradiction
          · exact walk_enum D.str (lns x)
          · refine for_miss hf (fun q hq hp => by
            obtain ⟨l1, l2, l3⟩ := lineq q hq
            unfold badL at hp
            apply turn2
            repeat contradiction)
          · repeat contradiction
            · rename_i c hc
              have hm := cells_mem hc
              exact sub_strs (by omega) (by omega)
            repeat contradiction
            · rename_i c hc
              have hm := cells_mem hc
              have hl1 := hno (k := c.1.toNat) (by omega)
              exact sub_char (x := (lns x).getD c.1.toNat Str.empty) (by omega) (by omega) (by omega)
            repeat contradiction
            · rename_i c hc
              exact eq_str (sg_ok ho c) (by decide +kernel)
            repeat contradiction
      all_goals rfl
end K06

end

section
set_option Elab.async false
set_option linter.all false
set_option maxRecDepth 100000
set_option maxHeartbeats 1000000
namespace K06
open PySem PySem.Spec L2 Gc
open Enc (en)
local macro_rules | `(tactic| contradiction) => `(tactic| ((with_reducible change rdV _ = _); assumption))
local macro_rules | `(tactic| contradiction) => `(tactic| ((with_reducible change isiD _ _ _ _ = _); assumption))
local macro_rules | `(tactic| contradiction) => `(tactic| ((with_reducible change hcN _ _ _ _ _ _ _ = _); assumption))
local macro_rules | `(tactic| contradiction) => `(tactic| with_reducible assumption)
local macro_rules | `(tactic| contradiction) => `(tactic| ((with_reducible change _ ≤ sizeLine); rw [sizeLine_eq]; first | omega | (simp only [List.length_cons, List.length_nil, List.length_map, List.length_range, List.length_zipIdx]; omega)))
local macro_rules | `(tactic| contradiction) => `(tactic| ((with_reducible change @Eq Bool _ _); exact rfl))
local macro_rules | `(tactic| contradiction) => `(tactic| ((with_reducible change wipeT _ _ = _); exact rfl))
local macro_rules | `(tactic| contradiction) => `(tactic| ((with_reducible change wipeT _ _ = wipeT _ _); exact rfl))
local macro_rules | `(tactic| contradiction) => `(tactic| ((with_reducible change @Eq (List Str) _ _); exact rfl))
local macro_rules | `(tactic| contradiction) => `(tactic| ((with_reducible change @Eq Nat _ _); exact rfl))
local macro_rules | `(tactic| contradiction) => `(tactic| ((with_reducible change lenD _ _ = _); exact rfl))
local macro_rules | `(tactic| contradiction) => `(tactic| ((with_reducible change revD _ _ = _); exact rfl))
local macro_rules | `(tactic| contradiction) => `(tactic| ((with_reducible change lookK _ _ _ = _); exact rfl))
local macro_rules | `(tactic| contradiction) => `(tactic| ((with_reducible change isUp _ _ _ = _); exact rfl))
local macro_rules | `(tactic| contradiction) => `(tactic| ((with_reducible change Cl.exc _ = _); exact rfl))
local macro_rules | `(tactic| contradiction) => `(tactic| ((with_reducible change Pg.cl _ _ = _); exact rfl))
local macro_rules | `(tactic| contradiction) => `(tactic| ((with_reducible change lstOk _ _ = _); exact rfl))
local macro_rules | `(tactic| contradiction) => `(tactic| ((with_reducible change optI _ _ _ = _); exact rfl))
local macro_rules | `(tactic| contradiction) => `(tactic| ((with_reducible change seqD _ _ = _); exact rfl))
local macro_rules | `(tactic| contradiction) => `(tactic| ((with_reducible change methD _ _ _ _ = _); exact rfl))
local macro_rules | `(tactic| contradiction) => `(tactic| ((with_reducible change attrD _ _ _ _ = _); exact rfl))
local macro_rules | `(tactic| contradiction) => `(tactic| ((with_reducible change walkD _ _ _ = _); exact rfl))
local macro_rules | `(tactic| contradiction) => `(tactic| ((with_reducible change isiD _ _ _ _ = _); exact rfl))
local macro_rules | `(tactic| contradiction) => `(tactic| ((with_reducible change slD _ _ _ _ = _); exact rfl))
local macro_rules | `(tactic| contradiction) => `(tactic| ((with_reducible change bltD _ _ _ = _); exact rfl))
local macro_rules | `(tactic| contradiction) => `(tactic| ((with_reducible change cmpD _ _ _ _ = _); exact rfl))
local macro_rules | `(tactic| contradiction) => `(tactic| ((with_reducible change subD _ _ _ = _); exact rfl))
local macro_rules | `(tactic| contradiction) => `(tactic| ((with_reducible change truD _ _ = _); exact rfl))
local macro_rules | `(tactic| contradiction) => `(tactic| ((with_reducible change (_ : List _)[_]? = _); exact rfl))
local macro_rules | `(tactic| contradiction) => `(tactic| (intro hk))
local macro_rules | `(tactic| contradiction) => `(tactic| (intro a ha))
local macro_rules | `(tactic| contradiction) => `(tactic| ((with_reducible change Rs.ok _ _ = Rs.ok _ _); with_reducible exact rfl))
local macro_rules | `(tactic| contradiction) => `(tactic| ((with_reducible change _ ∧ List.Nodup _ ∧ _); exact ⟨rfl, by decide, by decide⟩))
local macro_rules | `(tactic| contradiction) => `(tactic| with_reducible exact bind_t4)
local macro_rules | `(tactic| contradiction) => `(tactic| with_reducible exact bind_t3)
local macro_rules | `(tactic| contradiction) => `(tactic| with_reducible exact bind_t2)
local macro_rules | `(tactic| contradiction) => `(tactic| with_reducible exact bind_l3)
local macro_rules | `(tactic| contradiction) => `(tactic| with_reducible exact bind_l4)
local macro_rules | `(tactic| contradiction) => `(tactic| ((with_reducible apply lst_ref); assumption))
local macro_rules | `(tactic| contradiction) => `(tactic| ((with_reducible apply put_ref); assumption; exact rfl))
local macro_rules | `(tactic| contradiction) => `(tactic| ((with_reducible apply len_ref); assumption))
local macro_rules | `(tactic| contradiction) => `(tactic| ((with_reducible apply sub_ref); assumption; exact rfl))
local macro_rules | `(tactic| contradiction) => `(tactic| ((with_reducible refine e_frzL ?_); exact rfl))
local macro_rules | `(tactic| contradiction) => `(tactic| with_reducible exact lst_last)
local macro_rules | `(tactic| contradiction) => `(tactic| ((with_reducible refine app_last ?_); rw [sizeLine_eq]; first | omega | (simp only [List.length_map, List.length_append, List.length_cons, List.length_nil, List.length_range]; omega)))
local macro_rules | `(tactic| contradiction) => `(tactic| ((with_reducible apply fld_last); exact rfl; exact rfl; exact rfl; decide; exact rfl))
local macro_rules | `(tactic| contradiction) => `(tactic| ((with_reducible refine ne_str ?_ ?_) <;> first | assumption | decide +kernel))
local macro_rules | `(tactic| contradiction) => `(tactic| ((with_reducible refine eq_str ?_ ?_) <;> first | assumption | decide +kernel))
local macro_rules | `(tactic| contradiction) => `(tactic| ((with_reducible refine split_k ?_ ?_) <;> first | assumption | omega | decide))
local macro_rules | `(tactic| contradiction) => `(tactic| ((with_reducible refine add_str ?_); first | assumption | omega))
local macro_rules | `(tactic| contradiction) => `(tactic| ((with_reducible refine lenD_str ?_); first | assumption | omega))
local macro_rules | `(tactic| contradiction) => `(tactic| ((with_reducible refine sub_char ?_ ?_ ?_) <;> first | assumption | omega))
local macro_rules | `(tactic| contradiction) => `(tactic| ((with_reducible refine sub_strs ?_ ?_) <;> first | assumption | omega))
local macro_rules | `(tactic| contradiction) => `(tactic| ((with_reducible refine sub_pt ?_ ?_) <;> first | assumption | omega))
local macro_rules | `(tactic| contradiction) => `(tactic| ((with_reducible refine add_lst ?_); rw [sizeLine_eq]; simp only [List.length_map, List.length_append, List.length_cons, List.length_nil, List.length_range]; omega))
local macro_rules | `(tactic| contradiction) => `(tactic| ((with_reducible refine add_map ?_); first | omega | (simp only [List.length_map, List.length_append, List.length_cons, List.length_nil, List.length_range, List.length_reverse, List.length_take]; omega)))
local macro_rules | `(tactic| contradiction) => `(tactic| ((with_reducible refine lrange_k ?_ ?_) <;> omega))
local macro_rules | `(tactic| contradiction) => `(tactic| ((with_reducible refine walk_rng ?_); omega))
local macro_rules | `(tactic| contradiction) => `(tactic| ((with_reducible refine mulS ?_ ?_ ?_ ?_) <;> omega))
local macro_rules | `(tactic| contradiction) => `(tactic| ((with_reducible refine pow_3 ?_ ?_) <;> omega))
local macro_rules | `(tactic| contradiction) => `(tactic| ((with_reducible refine fdv_k ?_ ?_) <;> first | assumption | omega))
local macro_rules | `(tactic| contradiction) => `(tactic| ((with_reducible refine mod_k ?_); first | assumption | omega))
local macro_rules | `(tactic| contradiction) => `(tactic| with_reducible exact notin_sign)
local macro_rules | `(tactic| contradiction) => `(tactic| with_reducible exact in_sign)
local macro_rules | `(tactic| contradiction) => `(tactic| with_reducible exact walk_str)
local macro_rules | `(tactic| contradiction) => `(tactic| with_reducible exact ne_nilR)
local macro_rules | `(tactic| contradiction) => `(tactic| with_reducible exact eq_nilR)
local macro_rules | `(tactic| contradiction) => `(tactic| with_reducible exact rev_k)
local macro_rules | `(tactic| contradiction) => `(tactic| with_reducible exact ne_cells)
local macro_rules | `(tactic| contradiction) => `(tactic| with_reducible exact eq_cells)
local macro_rules | `(tactic| contradiction) => `(tactic| with_reducible exact notin_cell)
local macro_rules | `(tactic| contradiction) => `(tactic| with_reducible exact in_cellt)
local macro_rules | `(tactic| contradiction) => `(tactic| with_reducible exact in_cell)
local macro_rules | `(tactic| contradiction) => `(tactic| with_reducible exact notin_takeT)
local macro_rules | `(tactic| contradiction) => `(tactic| with_reducible exact notin_take)
local macro_rules | `(tactic| contradiction) => `(tactic| with_reducible exact notin_int)
local macro_rules | `(tactic| contradiction) => `(tactic| with_reducible exact in_int)
local macro_rules | `(tactic| contradiction) => `(tactic| with_reducible exact walk_tup)
local macro_rules | `(tactic| contradiction) => `(tactic| with_reducible exact walk_lst)
local macro_rules | `(tactic| contradiction) => `(tactic| with_reducible exact walk_enumt _ _)
local macro_rules | `(tactic| contradiction) => `(tactic| with_reducible exact walk_enum _ _)
local macro_rules | `(tactic| contradiction) => `(tactic| with_reducible exact sl_from)
local macro_rules | `(tactic| contradiction) => `(tactic| with_reducible exact sl_to)
local macro_rules | `(tactic| contradiction) => `(tactic| with_reducible exact slf_map)
local macro_rules | `(tactic| contradiction) => `(tactic| with_reducible exact sl_map)
local macro_rules | `(tactic| contradiction) => `(tactic| with_reducible exact slt_map (by assumption))
local macro_rules | `(tactic| contradiction) => `(tactic| with_reducible exact sum_map _)
local macro_rules | `(tactic| contradiction) => `(tactic| with_reducible exact any_map _ _)
local macro_rules | `(tactic| contradiction) => `(tactic| with_reducible exact all_map _ _)
local macro_rules | `(tactic| contradiction) => `(tactic| with_reducible exact len_tup)
local macro_rules | `(tactic| contradiction) => `(tactic| with_reducible exact len_lst)
local macro_rules | `(tactic| contradiction) => `(tactic| with_reducible exact len_mapt)
local macro_rules | `(tactic| contradiction) => `(tactic| with_reducible exact len_map)
local macro_rules | `(tactic| contradiction) => `(tactic| with_reducible exact lenD_tup)
local macro_rules | `(tactic| contradiction) => `(tactic| with_reducible exact lenD_lst)
local macro_rules | `(tactic| contradiction) => `(tactic| with_reducible exact lenD_map)
local macro_rules | `(tactic| contradiction) => `(tactic| with_reducible exact pow_c)
local macro_rules | `(tactic| contradiction) => `(tactic| with_reducible exact sub_k)
local macro_rules | `(tactic| contradiction) => `(tactic| with_reducible exact add_k)
local macro_rules | `(tactic| contradiction) => `(tactic| with_reducible exact ne_int)
local macro_rules | `(tactic| contradiction) => `(tactic| with_reducible exact eq_int)
local macro_rules | `(tactic| contradiction) => `(tactic| with_reducible apply c_ife)
local macro_rules | `(tactic| contradiction) => `(tactic| with_reducible apply c_andV)
local macro_rules | `(tactic| contradiction) => `(tactic| with_reducible apply c_orV)
local macro_rules | `(tactic| contradiction) => `(tactic| with_reducible apply c_and)
local macro_rules | `(tactic| contradiction) => `(tactic| with_reducible apply c_or)
local macro_rules | `(tactic| contradiction) => `(tactic| ((with_reducible refine c_f ?_ ?_); · (first | with_reducible rfl | with_reducible assumption | ((with_reducible change (!List.any _ _) = _); exact rfl) | ((with_reducible change List.any _ _ = _); exact rfl) | (simp only [Bool.not_true, Bool.not_false, decide_eq_true_eq, decide_eq_false_iff_not, Bool.not_eq_true', Bool.not_eq_false', Int.not_lt, Int.not_le, Bool.or_eq_false_iff, Bool.or_eq_true, Bool.and_eq_true]; omega) | (simp; done))))
local macro_rules | `(tactic| contradiction) => `(tactic| ((with_reducible refine c_t ?_ ?_); · (first | with_reducible rfl | with_reducible assumption | ((with_reducible change (!List.any _ _) = _); exact rfl) | ((with_reducible change List.any _ _ = _); exact rfl) | (simp only [Bool.not_true, Bool.not_false, decide_eq_true_eq, decide_eq_false_iff_not, Bool.not_eq_true', Bool.not_eq_false', Int.not_lt, Int.not_le, Bool.or_eq_false_iff, Bool.or_eq_true, Bool.and_eq_true]; omega) | (simp; done))))
local macro_rules | `(tactic| contradiction) => `(tactic| ((with_reducible refine bk_f ?_ ?_); · (first | with_reducible rfl | with_reducible assumption | ((with_reducible change (!List.any _ _) = _); exact rfl) | ((with_reducible change List.any _ _ = _); exact rfl) | (simp only [Bool.not_true, Bool.not_false, decide_eq_true_eq, decide_eq_false_iff_not, Bool.not_eq_true', Bool.not_eq_false', Int.not_lt, Int.not_le, Bool.or_eq_false_iff, Bool.or_eq_true, Bool.and_eq_true]; omega) | (simp; done))))
local macro_rules | `(tactic| contradiction) => `(tactic| ((with_reducible refine bk_t ?_ ?_); · (first | with_reducible rfl | with_reducible assumption | ((with_reducible change (!List.any _ _) = _); exact rfl) | ((with_reducible change List.any _ _ = _); exact rfl) | (simp only [Bool.not_true, Bool.not_false, decide_eq_true_eq, decide_eq_false_iff_not, Bool.not_eq_true', Bool.not_eq_false', Int.not_lt, Int.not_le, Bool.or_eq_false_iff, Bool.or_eq_true, Bool.and_eq_true]; omega) | (simp; done))))
local macro_rules | `(tactic| contradiction) => `(tactic| with_reducible exact new_1)
local macro_rules | `(tactic| contradiction) => `(tactic| with_reducible exact new_0)
local macro_rules | `(tactic| contradiction) => `(tactic| with_reducible exact fin_l1)
local macro_rules | `(tactic| contradiction) => `(tactic| with_reducible exact fin_l)
local macro_rules | `(tactic| contradiction) => `(tactic| with_reducible exact fin_v)
local macro_rules | `(tactic| contradiction) => `(tactic| with_reducible apply lcb2f)
local macro_rules | `(tactic| contradiction) => `(tactic| with_reducible apply lcb2)
local macro_rules | `(tactic| contradiction) => `(tactic| with_reducible apply lcb1f)
local macro_rules | `(tactic| contradiction) => `(tactic| with_reducible apply lcb1)
local macro_rules | `(tactic| contradiction) => `(tactic| with_reducible apply b_app0)
local macro_rules | `(tactic| contradiction) => `(tactic| with_reducible apply b_app)
local macro_rules | `(tactic| contradiction) => `(tactic| with_reducible exact q_nil)
local macro_rules | `(tactic| contradiction) => `(tactic| with_reducible apply b_par)
local macro_rules | `(tactic| contradiction) => `(tactic| with_reducible exact b_brk)
local macro_rules | `(tactic| contradiction) => `(tactic| with_reducible exact b_cnt)
local macro_rules | `(tactic| contradiction) => `(tactic| with_reducible apply b_unp)
local macro_rules | `(tactic| contradiction) => `(tactic| with_reducible apply b_for rfl)
local macro_rules | `(tactic| contradiction) => `(tactic| with_reducible apply b_pass)
local macro_rules | `(tactic| contradiction) => `(tactic| with_reducible apply b_rse)
local macro_rules | `(tactic| contradiction) => `(tactic| with_reducible apply b_ite)
local macro_rules | `(tactic| contradiction) => `(tactic| with_reducible apply b_expr)
local macro_rules | `(tactic| contradiction) => `(tactic| with_reducible apply b_fld)
local macro_rules | `(tactic| contradiction) => `(tactic| with_reducible apply b_put)
local macro_rules | `(tactic| contradiction) => `(tactic| with_reducible apply b_asg)
local macro_rules | `(tactic| contradiction) => `(tactic| with_reducible exact b_retN)
local macro_rules | `(tactic| contradiction) => `(tactic| with_reducible apply b_ret)
local macro_rules | `(tactic| contradiction) => `(tactic| with_reducible apply t_len)
local macro_rules | `(tactic| contradiction) => `(tactic| with_reducible apply t_var)
local macro_rules | `(tactic| contradiction) => `(tactic| with_reducible apply t_con)
local macro_rules | `(tactic| contradiction) => `(tactic| with_reducible apply e_chn)
local macro_rules | `(tactic| contradiction) => `(tactic| with_reducible apply t_chn)
local macro_rules | `(tactic| contradiction) => `(tactic| with_reducible apply t_meth)
local macro_rules | `(tactic| contradiction) => `(tactic| with_reducible apply t_call)
local macro_rules | `(tactic| contradiction) => `(tactic| with_reducible apply t_blt)
local macro_rules | `(tactic| contradiction) => `(tactic| with_reducible apply t_isi)
local macro_rules | `(tactic| contradiction) => `(tactic| with_reducible apply tc_and)
local macro_rules | `(tactic| contradiction) => `(tactic| with_reducible apply tc_or)
local macro_rules | `(tactic| contradiction) => `(tactic| with_reducible apply t_not)
local macro_rules | `(tactic| contradiction) => `(tactic| with_reducible apply t_cmpP)
local macro_rules | `(tactic| contradiction) => `(tactic| with_reducible apply t_cmp)
local macro_rules | `(tactic| contradiction) => `(tactic| with_reducible exact bind_one)
local macro_rules | `(tactic| contradiction) => `(tactic| with_reducible apply lc2_2)
local macro_rules | `(tactic| contradiction) => `(tactic| with_reducible apply lc2_1)
local macro_rules | `(tactic| contradiction) => `(tactic| with_reducible apply lcFM2)
local macro_rules | `(tactic| contradiction) => `(tactic| with_reducible apply lcFM1)
local macro_rules | `(tactic| contradiction) => `(tactic| with_reducible apply lcF1)
local macro_rules | `(tactic| contradiction) => `(tactic| with_reducible apply e_lcmap)
local macro_rules | `(tactic| contradiction) => `(tactic| with_reducible apply e_lcFM)
local macro_rules | `(tactic| contradiction) => `(tactic| with_reducible apply e_lcF)
local macro_rules | `(tactic| contradiction) => `(tactic| with_reducible apply e_callV)
local macro_rules | `(tactic| contradiction) => `(tactic| with_reducible exact e_fnv)
local macro_rules | `(tactic| contradiction) => `(tactic| with_reducible apply e_sjn)
local macro_rules | `(tactic| contradiction) => `(tactic| with_reducible apply e_ssp)
local macro_rules | `(tactic| contradiction) => `(tactic| with_reducible apply e_rev)
local macro_rules | `(tactic| contradiction) => `(tactic| with_reducible apply e_len)
local macro_rules | `(tactic| contradiction) => `(tactic| with_reducible apply e_dic)
local macro_rules | `(tactic| contradiction) => `(tactic| with_reducible apply e_bm)
local macro_rules | `(tactic| contradiction) => `(tactic| with_reducible apply e_sl)
local macro_rules | `(tactic| contradiction) => `(tactic| with_reducible apply e_callK)
local macro_rules | `(tactic| contradiction) => `(tactic| with_reducible apply e_methK)
local macro_rules | `(tactic| contradiction) => `(tactic| with_reducible apply e_meth)
local macro_rules | `(tactic| contradiction) => `(tactic| with_reducible apply e_call)
local macro_rules | `(tactic| contradiction) => `(tactic| with_reducible apply ec_ife)
local macro_rules | `(tactic| contradiction) => `(tactic| with_reducible apply ec_and)
local macro_rules | `(tactic| contradiction) => `(tactic| with_reducible apply ec_or)
local macro_rules | `(tactic| contradiction) => `(tactic| with_reducible apply e_isi)
local macro_rules | `(tactic| contradiction) => `(tactic| with_reducible apply e_attr)
local macro_rules | `(tactic| contradiction) => `(tactic| with_reducible apply l_star)
local macro_rules | `(tactic| contradiction) => `(tactic| with_reducible apply l_cons rfl)
local macro_rules | `(tactic| contradiction) => `(tactic| with_reducible exact l_nil)
local macro_rules | `(tactic| contradiction) => `(tactic| with_reducible apply e_lst)
local macro_rules | `(tactic| contradiction) => `(tactic| with_reducible apply e_tup)
local macro_rules | `(tactic| contradiction) => `(tactic| with_reducible apply e_cmpP)
local macro_rules | `(tactic| contradiction) => `(tactic| with_reducible apply e_cmp)
local macro_rules | `(tactic| contradiction) => `(tactic| with_reducible apply e_neg)
local macro_rules | `(tactic| contradiction) => `(tactic| with_reducible apply e_not)
local macro_rules | `(tactic| contradiction) => `(tactic| with_reducible apply e_blt)
local macro_rules | `(tactic| contradiction) => `(tactic| with_reducible apply e_sub)
local macro_rules | `(tactic| contradiction) => `(tactic| with_reducible apply e_bin)
local macro_rules | `(tactic| contradiction) => `(tactic| with_reducible apply e_var)
local macro_rules | `(tactic| contradiction) => `(tactic| with_reducible exact e_cnon)
local macro_rules | `(tactic| contradiction) => `(tactic| with_reducible exact e_cbl)
local macro_rules | `(tactic| contradiction) => `(tactic| with_reducible exact e_cstr)
local macro_rules | `(tactic| contradiction) => `(tactic| with_reducible exact e_cint)
local macro_rules | `(tactic| contradiction) => `(tactic| with_reducible exact split_lns (by assumption))
/-- the law's form -/
abbrev formD (h w : Nat) (a b : Int) : Gc.D := .tup [.int h, .int w, .int a, .int b]
theorem cells_succ (h w : Nat) : cells (h + 1) w = cells h w ++ (List.range w).map fun j : Nat => ((h : Int), (j : Int)) := by
  unfold cells
  rw [List.range_succ, List.flatMap_append]
  simp
theorem lcells_k (n : Nat) (h w : Nat) (a b : Int) (hh : h ≤ 6) (hw : w ≤ 6) (S) : hcN P es (n + 1) F__law_cells [formD h w a b] 0 S = .ok (.lst ((cells h w).map enC)) S := by
  rw [r__law_cells]
  apply runR (τ0 := [some (formD h w a b), none, none, none]) rfl rfl
  repeat contradiction
  · apply for_eqI (en := fun k : Nat => D.int (k : Int)) (st := fun g : List (Int × Int) => ⟨[some (formD h w a b), some (.lst (g.map enC)), none, none], S⟩) (g0 := []) (fun g (i : Nat) => g ++ (List.range w).map fun j : Nat => ((i : Int), (j : Int))) (fun i g => g = cells i w)
    · rfl
    · intro i k hi g hg
      have hi4 : i < h := by have := (List.getElem?_eq_some_iff.mp hi).1; simpa using this
      have ek : k = i := by have := (List.getElem?_eq_some_iff.mp hi).2; simpa using this.symm
      subst ek
      have hlen : g.length ≤ 36 := by rw [hg, cells_len]; exact Nat.mul_le_mul (show k ≤ 6 by omega) hw
      refine ⟨?_, by rw [cells_succ, ← hg]⟩
      apply turn1
      repeat contradiction
      rw [List.map_append, List.map_map]
      rfl
    · rfl
    · rfl
  repeat contradiction
  · have e : ∀ m : Nat, (List.range m).foldl (fun g (i : Nat) => g ++ (List.range w).map fun j : Nat => ((i : Int), (j : Int))) [] = cells m w := by
      intro m
      induction m with
      | zero => rfl
      | succ m ih => rw [List.range_succ, List.foldl_append, ih, cells_succ]; rfl
    rw [e]
  · rfl
local macro_rules | `(tactic| contradiction) => `(tactic| with_reducible exact lcells_k _ _ _ _ _ (by assumption) (by assumption) _)
def toldD (h w : Nat) (x : Str) : Gc.D := match told h w x with
  | .inl k => .int k
  | .inr l => .lst (l.map enC)
theorem all_filter (p : Nat → Bool) : ∀ l : List Nat, l.all p = (l.filter fun c => !p c).isEmpty
  | [] => rfl
  | c :: l => by
    rw [List.all_cons, List.filter_cons, all_filter p l]
    cases p c <;> rfl
theorem sub_strsN {S : List (Option Gc.D)} {xs : List Str} {k : Nat} (h2 : k < xs.length) : subD S (.lst (xs.map .str)) (.int (k : Int)) = some (.str (xs.getD k Str.empty)) := by
  have := sub_strs (S := S) (xs := xs) (i := (k : Int)) (by omega) (by omega)
  rw [Int.toNat_natCast] at this
  exact this
local macro_rules | `(tactic| contradiction) => `(tactic| with_reducible exact sub_strsN (by assumption))
theorem badL_eq {h w k : Nat} {y : Str} : badL h w k y = (decide ((k : Int) = h) || (!decide ((y.length : Int) = w) || !((y.cps.toList.filter fun c => !decide (c ∈ ("x." : Str).cps.toList)).map fun c => D.str ⟨#[c]⟩).isEmpty)) := by
  unfold badL
  congr 2
  congr 1
  rw [List.isEmpty_map]
  exact all_filter (fun c => decide (c ∈ ("x." : Str).cps.toList)) y.cps.toList
theorem find_range {h w : Nat} (ls : List Str) : ∀ (m : List Str) (k : Nat), (∀ i y, m[i]? = some y → ls[k + i]? = some y) → (m.zipIdx k).find? (fun q => badL h w q.2 q.1) = ((List.range' k m.length).find? fun i => badL h w i (ls.getD i Str.empty)).map fun i => (ls.getD i Str.empty, i)
  | [], k, _ => rfl
  | y :: m, k, hm => by
    have h0 : ls.getD k Str.empty = y := by
      have := hm 0 y rfl
      rw [List.getD_eq_getElem?_getD]
      rw [Nat.add_zero] at this
      rw [this]; rfl
    rw [List.zipIdx_cons, List.length_cons, List.range'_succ, List.find?_cons, List.find?_cons, h0]
    dsimp only
    cases badL h w k y with
    | true => rw [Option.map_some, h0]
    | false =>
      dsimp only
      exact find_range ls m (k + 1) fun i z hz => by
        have := hm (i + 1) z (by simpa using hz)
        rw [← this]; congr 1; omega
theorem due_k (n : Nat) (h w : Nat) (a b : Int) (hh : h ≤ 6) (hw : w ≤ 6) (x : Str) (hx : x.length ≤ 300) (ho : PyData.strOk x = true) (S) : hcN P es (n + 2) F__law_due [formD h w a b, .str x] 0 S = .ok (toldD h w x) S := by
  rw [r__law_due]
  have hlen : (lns x).length ≤ x.length + 1 := split_many (by decide)
  have hfr := find_range (h := h) (w := w) (lns x) (lns x) 0 (fun i y hy => by rw [Nat.zero_add]; exact hy)
  have line : ∀ k : Nat, k < (lns x).length → ((lns x).getD k Str.empty).length ≤ 300 ∧ ((lns x).getD k Str.empty).cps.toList.length ≤ 300 := fun k hk => by
    have hm : (lns x).getD k Str.empty ∈ lns x := by rw [List.getD_eq_getElem?_getD, List.getElem?_eq_getElem hk]; simp
    obtain ⟨l1, l2⟩ := line_ok hx ho hm
    refine ⟨l1, ?_⟩
    have e : ((lns x).getD k Str.empty).cps.toList.length = ((lns x).getD k Str.empty).length := by simp [Str.length]
    omega
  rw [← List.range_eq_range'] at hfr
  have good : ∀ k ∈ List.range (lns x).length, k < (lns x).length ∧ ((lns x).getD k Str.empty).length ≤ 300 ∧ ((lns x).getD k Str.empty).cps.toList.length ≤ 300 := fun k hk => ⟨List.mem_range.mp hk, line k (List.mem_range.mp hk)⟩
  cases hf : (List.range (lns x).length).find? (fun i => badL h w i ((lns x).getD i Str.empty)) with
  | some k =>
    rw [hf] at hfr
    have et : toldD h w x = .int ((k : Int) + 1) := by unfold toldD told fstB; rw [hfr]; rfl
    rw [et]
    apply runR (τ0 := [some (formD h w a b), some (.str x), none, none, none, none, none]) rfl rfl
    · apply b_asg
      · repeat contradiction
      · apply b_forR rfl
        · repeat contradiction
        · exact walk_rng (by omega)
        · refine for_hit hf ?_ ?_ (fun k hk hp => by
            obtain ⟨hk1, l1, l3⟩ := good k hk
            rw [badL_eq] at hp
            have hp2 := (Bool.or_eq_false_iff.mp hp).2
            apply turn1
            repeat contradiction)
          · obtain ⟨hk1, l1, l3⟩ := good k (List.mem_of_find?_eq_some hf)
            have hp := List.find?_some hf
            rw [badL_eq] at hp
            apply turn1
            repeat contradiction
          · rfl
    all_goals rfl
  | none =>
    rw [hf] at hfr
    have hno := @fstB_none h w (lns x) hfr
    by_cases hs : (lns x).length < h
    · have et : toldD h w x = .int ((lns x).length + 1) := by unfold toldD told fstB; rw [hfr]; simp only [Option.map_none, if_pos hs]; rfl
      rw [et]
      apply runR (τ0 := [some (formD h w a b), some (.str x), none, none, none, none, none]) rfl rfl
      · apply b_asg
        · repeat contradiction
        · apply b_for rfl
          · repeat contradiction
          · exact walk_rng (by omega)
          · refine for_miss hf (fun k hk hp => by
            obtain ⟨hk1, l1, l3⟩ := good k hk
            rw [badL_eq] at hp
            have hp2 := (Bool.or_eq_false_iff.mp hp).2
            apply turn1
            repeat contradiction)
          · repeat contradiction
      all_goals rfl
    · have et : toldD h w x = .lst ((lostOf h w (lns x)).map enC) := by unfold toldD told fstB; rw [hfr]; simp only [Option.map_none, if_neg hs]
      rw [et]
      have hcl : (cells h w).length ≤ 36 := by rw [cells_len]; exact Nat.mul_le_mul hh hw
      apply runR (τ0 := [some (formD h w a b), some (.str x), none, none, none, none, none]) rfl rfl
      · apply b_asg
        · repeat contradiction
        · apply b_for rfl
          · repeat contradiction
          · exact walk_rng (by omega)
          · refine for_miss hf (fun k hk hp => by
            obtain ⟨hk1, l1, l3⟩ := good k hk
            rw [badL_eq] at hp
            have hp2 := (Bool.or_eq_false_iff.mp hp).2
            apply turn1
            repeat contradiction)
          · repeat contradiction
            · rename_i c hc
              have hm := cells_mem hc
              exact sub_strs (by omega) (by omega)
            repeat contradiction
            · rename_i c hc
              have hm := cells_mem hc
              have hl1 := hno (k := c.1.toNat) (by omega)
              exact sub_char (x := (lns x).getD c.1.toNat Str.empty) (by omega) (by omega) (by omega)
            repeat contradiction
            · rename_i c hc
              exact eq_str (sg_ok ho c) (by decide +kernel)
            repeat contradiction
      all_goals rfl
theorem read_k (n : Nat) (h w : Nat) (a b : Int) (hh : h ≤ 6) (hw : w ≤ 6) (x : Str) (hx : x.length ≤ 300) (ho : PyData.strOk x = true) (S) : hcN P es (n + 3) F__law_read [shapeD h w a b, .str x] 0 S = .ok (toldD h w x) S := by
  rw [r__law_read]
  have hk := of_picture_k n h w a b hh hw x hx ho 0 rfl S
  unfold toldD
  cases ht : told h w x with
  | inl k =>
    rw [ht] at hk
    apply runR (τ0 := [some (shapeD h w a b), some (.str x), none]) rfl rfl
    · apply q_ret
      apply x_triX
      · apply q_x
        apply x_retX
        apply e_methKX
        · repeat contradiction
        · exact rfl
        · repeat contradiction
        · repeat contradiction
        · exact rfl
        · exact rfl
        · exact rfl
        · exact hk
      · apply h_hit
        · rfl
        · apply b_ret
          apply e_exf
          · rfl
          · rfl
    all_goals rfl
  | inr l =>
    rw [ht] at hk
    apply runR (τ0 := [some (shapeD h w a b), some (.str x), none]) rfl rfl
    · apply q_ret
      apply x_triN
      repeat contradiction
    all_goals rfl
end K06

end

section
set_option Elab.async false
set_option linter.all false
set_option maxRecDepth 100000
set_option maxHeartbeats 1000000
namespace K06
open PySem PySem.Spec L2 Gc
open Enc (en)
local macro_rules | `(tactic| contradiction) => `(tactic| ((with_reducible change rdV _ = _); assumption))
local macro_rules | `(tactic| contradiction) => `(tactic| ((with_reducible change isiD _ _ _ _ = _); assumption))
local macro_rules | `(tactic| contradiction) => `(tactic| ((with_reducible change hcN _ _ _ _ _ _ _ = _); assumption))
local macro_rules | `(tactic| contradiction) => `(tactic| with_reducible assumption)
local macro_rules | `(tactic| contradiction) => `(tactic| ((with_reducible change _ ≤ sizeLine); rw [sizeLine_eq]; first | omega | (simp only [List.length_cons, List.length_nil, List.length_map, List.length_range, List.length_zipIdx]; omega)))
local macro_rules | `(tactic| contradiction) => `(tactic| ((with_reducible change @Eq Bool _ _); exact rfl))
local macro_rules | `(tactic| contradiction) => `(tactic| ((with_reducible change wipeT _ _ = _); exact rfl))
local macro_rules | `(tactic| contradiction) => `(tactic| ((with_reducible change wipeT _ _ = wipeT _ _); exact rfl))
local macro_rules | `(tactic| contradiction) => `(tactic| ((with_reducible change @Eq (List Str) _ _); exact rfl))
local macro_rules | `(tactic| contradiction) => `(tactic| ((with_reducible change @Eq Nat _ _); exact rfl))
local macro_rules | `(tactic| contradiction) => `(tactic| ((with_reducible change lenD _ _ = _); exact rfl))
local macro_rules | `(tactic| contradiction) => `(tactic| ((with_reducible change revD _ _ = _); exact rfl))
local macro_rules | `(tactic| contradiction) => `(tactic| ((with_reducible change lookK _ _ _ = _); exact rfl))
local macro_rules | `(tactic| contradiction) => `(tactic| ((with_reducible change isUp _ _ _ = _); exact rfl))
local macro_rules | `(tactic| contradiction) => `(tactic| ((with_reducible change Cl.exc _ = _); exact rfl))
local macro_rules | `(tactic| contradiction) => `(tactic| ((with_reducible change Pg.cl _ _ = _); exact rfl))
local macro_rules | `(tactic| contradiction) => `(tactic| ((with_reducible change lstOk _ _ = _); exact rfl))
local macro_rules | `(tactic| contradiction) => `(tactic| ((with_reducible change optI _ _ _ = _); exact rfl))
local macro_rules | `(tactic| contradiction) => `(tactic| ((with_reducible change seqD _ _ = _); exact rfl))
local macro_rules | `(tactic| contradiction) => `(tactic| ((with_reducible change methD _ _ _ _ = _); exact rfl))
local macro_rules | `(tactic| contradiction) => `(tactic| ((with_reducible change attrD _ _ _ _ = _); exact rfl))
local macro_rules | `(tactic| contradiction) => `(tactic| ((with_reducible change walkD _ _ _ = _); exact rfl))
local macro_rules | `(tactic| contradiction) => `(tactic| ((with_reducible change isiD _ _ _ _ = _); exact rfl))
local macro_rules | `(tactic| contradiction) => `(tactic| ((with_reducible change slD _ _ _ _ = _); exact rfl))
local macro_rules | `(tactic| contradiction) => `(tactic| ((with_reducible change bltD _ _ _ = _); exact rfl))
local macro_rules | `(tactic| contradiction) => `(tactic| ((with_reducible change cmpD _ _ _ _ = _); exact rfl))
local macro_rules | `(tactic| contradiction) => `(tactic| ((with_reducible change subD _ _ _ = _); exact rfl))
local macro_rules | `(tactic| contradiction) => `(tactic| ((with_reducible change truD _ _ = _); exact rfl))
local macro_rules | `(tactic| contradiction) => `(tactic| ((with_reducible change (_ : List _)[_]? = _); exact rfl))
local macro_rules | `(tactic| contradiction) => `(tactic| (intro hk))
local macro_rules | `(tactic| contradiction) => `(tactic| (intro a ha))
local macro_rules | `(tactic| contradiction) => `(tactic| ((with_reducible change Rs.ok _ _ = Rs.ok _ _); with_reducible exact rfl))
local macro_rules | `(tactic| contradiction) => `(tactic| ((with_reducible change _ ∧ List.Nodup _ ∧ _); exact ⟨rfl, by decide, by decide⟩))
local macro_rules | `(tactic| contradiction) => `(tactic| with_reducible exact bind_t4)
local macro_rules | `(tactic| contradiction) => `(tactic| with_reducible exact bind_t3)
local macro_rules | `(tactic| contradiction) => `(tactic| with_reducible exact bind_t2)
local macro_rules | `(tactic| contradiction) => `(tactic| with_reducible exact bind_l3)
local macro_rules | `(tactic| contradiction) => `(tactic| with_reducible exact bind_l4)
local macro_rules | `(tactic| contradiction) => `(tactic| ((with_reducible apply lst_ref); assumption))
local macro_rules | `(tactic| contradiction) => `(tactic| ((with_reducible apply put_ref); assumption; exact rfl))
local macro_rules | `(tactic| contradiction) => `(tactic| ((with_reducible apply len_ref); assumption))
local macro_rules | `(tactic| contradiction) => `(tactic| ((with_reducible apply sub_ref); assumption; exact rfl))
local macro_rules | `(tactic| contradiction) => `(tactic| ((with_reducible refine e_frzL ?_); exact rfl))
local macro_rules | `(tactic| contradiction) => `(tactic| with_reducible exact lst_last)
local macro_rules | `(tactic| contradiction) => `(tactic| ((with_reducible refine app_last ?_); rw [sizeLine_eq]; first | omega | (simp only [List.length_map, List.length_append, List.length_cons, List.length_nil, List.length_range]; omega)))
local macro_rules | `(tactic| contradiction) => `(tactic| ((with_reducible apply fld_last); exact rfl; exact rfl; exact rfl; decide; exact rfl))
local macro_rules | `(tactic| contradiction) => `(tactic| ((with_reducible refine ne_str ?_ ?_) <;> first | assumption | decide +kernel))
local macro_rules | `(tactic| contradiction) => `(tactic| ((with_reducible refine eq_str ?_ ?_) <;> first | assumption | decide +kernel))
local macro_rules | `(tactic| contradiction) => `(tactic| ((with_reducible refine split_k ?_ ?_) <;> first | assumption | omega | decide))
local macro_rules | `(tactic| contradiction) => `(tactic| ((with_reducible refine add_str ?_); first | assumption | omega))
local macro_rules | `(tactic| contradiction) => `(tactic| ((with_reducible refine lenD_str ?_); first | assumption | omega))
local macro_rules | `(tactic| contradiction) => `(tactic| ((with_reducible refine sub_char ?_ ?_ ?_) <;> first | assumption | omega))
local macro_rules | `(tactic| contradiction) => `(tactic| ((with_reducible refine sub_strs ?_ ?_) <;> first | assumption | omega))
local macro_rules | `(tactic| contradiction) => `(tactic| ((with_reducible refine sub_pt ?_ ?_) <;> first | assumption | omega))
local macro_rules | `(tactic| contradiction) => `(tactic| ((with_reducible refine add_lst ?_); rw [sizeLine_eq]; simp only [List.length_map, List.length_append, List.length_cons, List.length_nil, List.length_range]; omega))
local macro_rules | `(tactic| contradiction) => `(tactic| ((with_reducible refine add_map ?_); first | omega | (simp only [List.length_map, List.length_append, List.length_cons, List.length_nil, List.length_range, List.length_reverse, List.length_take]; omega)))
local macro_rules | `(tactic| contradiction) => `(tactic| ((with_reducible refine lrange_k ?_ ?_) <;> omega))
local macro_rules | `(tactic| contradiction) => `(tactic| ((with_reducible refine walk_rng ?_); omega))
local macro_rules | `(tactic| contradiction) => `(tactic| ((with_reducible refine mulS ?_ ?_ ?_ ?_) <;> omega))
local macro_rules | `(tactic| contradiction) => `(tactic| ((with_reducible refine pow_3 ?_ ?_) <;> omega))
local macro_rules | `(tactic| contradiction) => `(tactic| ((with_reducible refine fdv_k ?_ ?_) <;> first | assumption | omega))
local macro_rules | `(tactic| contradiction) => `(tactic| ((with_reducible refine mod_k ?_); first | assumption | omega))
local macro_rules | `(tactic| contradiction) => `(tactic| with_reducible exact notin_sign)
local macro_rules | `(tactic| contradiction) => `(tactic| with_reducible exact in_sign)
local macro_rules | `(tactic| contradiction) => `(tactic| with_reducible exact walk_str)
local macro_rules | `(tactic| contradiction) => `(tactic| with_reducible exact ne_nilR)
local macro_rules | `(tactic| contradiction) => `(tactic| with_reducible exact eq_nilR)
local macro_rules | `(tactic| contradiction) => `(tactic| with_reducible exact rev_k)
local macro_rules | `(tactic| contradiction) => `(tactic| with_reducible exact ne_cells)
local macro_rules | `(tactic| contradiction) => `(tactic| with_reducible exact eq_cells)
local macro_rules | `(tactic| contradiction) => `(tactic| with_reducible exact notin_cell)
local macro_rules | `(tactic| contradiction) => `(tactic| with_reducible exact in_cellt)
local macro_rules | `(tactic| contradiction) => `(tactic| with_reducible exact in_cell)
local macro_rules | `(tactic| contradiction) => `(tactic| with_reducible exact notin_takeT)
local macro_rules | `(tactic| contradiction) => `(tactic| with_reducible exact notin_take)
local macro_rules | `(tactic| contradiction) => `(tactic| with_reducible exact notin_int)
local macro_rules | `(tactic| contradiction) => `(tactic| with_reducible exact in_int)
local macro_rules | `(tactic| contradiction) => `(tactic| with_reducible exact walk_tup)
local macro_rules | `(tactic| contradiction) => `(tactic| with_reducible exact walk_lst)
local macro_rules | `(tactic| contradiction) => `(tactic| with_reducible exact walk_enumt _ _)
local macro_rules | `(tactic| contradiction) => `(tactic| with_reducible exact walk_enum _ _)
local macro_rules | `(tactic| contradiction) => `(tactic| with_reducible exact sl_from)
local macro_rules | `(tactic| contradiction) => `(tactic| with_reducible exact sl_to)
local macro_rules | `(tactic| contradiction) => `(tactic| with_reducible exact slf_map)
local macro_rules | `(tactic| contradiction) => `(tactic| with_reducible exact sl_map)
local macro_rules | `(tactic| contradiction) => `(tactic| with_reducible exact slt_map (by assumption))
local macro_rules | `(tactic| contradiction) => `(tactic| with_reducible exact sum_map _)
local macro_rules | `(tactic| contradiction) => `(tactic| with_reducible exact any_map _ _)
local macro_rules | `(tactic| contradiction) => `(tactic| with_reducible exact all_map _ _)
local macro_rules | `(tactic| contradiction) => `(tactic| with_reducible exact len_tup)
local macro_rules | `(tactic| contradiction) => `(tactic| with_reducible exact len_lst)
local macro_rules | `(tactic| contradiction) => `(tactic| with_reducible exact len_mapt)
local macro_rules | `(tactic| contradiction) => `(tactic| with_reducible exact len_map)
local macro_rules | `(tactic| contradiction) => `(tactic| with_reducible exact lenD_tup)
local macro_rules | `(tactic| contradiction) => `(tactic| with_reducible exact lenD_lst)
local macro_rules | `(tactic| contradiction) => `(tactic| with_reducible exact lenD_map)
local macro_rules | `(tactic| contradiction) => `(tactic| with_reducible exact pow_c)
local macro_rules | `(tactic| contradiction) => `(tactic| with_reducible exact sub_k)
local macro_rules | `(tactic| contradiction) => `(tactic| with_reducible exact add_k)
local macro_rules | `(tactic| contradiction) => `(tactic| with_reducible exact ne_int)
local macro_rules | `(tactic| contradiction) => `(tactic| with_reducible exact eq_int)
local macro_rules | `(tactic| contradiction) => `(tactic| with_reducible apply c_ife)
local macro_rules | `(tactic| contradiction) => `(tactic| with_reducible apply c_andV)
local macro_rules | `(tactic| contradiction) => `(tactic| with_reducible apply c_orV)
local macro_rules | `(tactic| contradiction) => `(tactic| with_reducible apply c_and)
local macro_rules | `(tactic| contradiction) => `(tactic| with_reducible apply c_or)
local macro_rules | `(tactic| contradiction) => `(tactic| ((with_reducible refine c_f ?_ ?_); · (first | with_reducible rfl | with_reducible assumption | ((with_reducible change (!List.any _ _) = _); exact rfl) | ((with_reducible change List.any _ _ = _); exact rfl) | (simp only [Bool.not_true, Bool.not_false, decide_eq_true_eq, decide_eq_false_iff_not, Bool.not_eq_true', Bool.not_eq_false', Int.not_lt, Int.not_le, Bool.or_eq_false_iff, Bool.or_eq_true, Bool.and_eq_true]; omega) | (simp; done))))
local macro_rules | `(tactic| contradiction) => `(tactic| ((with_reducible refine c_t ?_ ?_); · (first | with_reducible rfl | with_reducible assumption | ((with_reducible change (!List.any _ _) = _); exact rfl) | ((with_reducible change List.any _ _ = _); exact rfl) | (simp only [Bool.not_true, Bool.not_false, decide_eq_true_eq, decide_eq_false_iff_not, Bool.not_eq_true', Bool.not_eq_false', Int.not_lt, Int.not_le, Bool.or_eq_false_iff, Bool.or_eq_true, Bool.and_eq_true]; omega) | (simp; done))))
local macro_rules | `(tactic| contradiction) => `(tactic| ((with_reducible refine bk_f ?_ ?_); · (first | with_reducible rfl | with_reducible assumption | ((with_reducible change (!List.any _ _) = _); exact rfl) | ((with_reducible change List.any _ _ = _); exact rfl) | (simp only [Bool.not_true, Bool.not_false, decide_eq_true_eq, decide_eq_false_iff_not, Bool.not_eq_true', Bool.not_eq_false', Int.not_lt, Int.not_le, Bool.or_eq_false_iff, Bool.or_eq_true, Bool.and_eq_true]; omega) | (simp; done))))
local macro_rules | `(tactic| contradiction) => `(tactic| ((with_reducible refine bk_t ?_ ?_); · (first | with_reducible rfl | with_reducible assumption | ((with_reducible change (!List.any _ _) = _); exact rfl) | ((with_reducible change List.any _ _ = _); exact rfl) | (simp only [Bool.not_true, Bool.not_false, decide_eq_true_eq, decide_eq_false_iff_not, Bool.not_eq_true', Bool.not_eq_false', Int.not_lt, Int.not_le, Bool.or_eq_false_iff, Bool.or_eq_true, Bool.and_eq_true]; omega) | (simp; done))))
local macro_rules | `(tactic| contradiction) => `(tactic| with_reducible exact new_1)
local macro_rules | `(tactic| contradiction) => `(tactic| with_reducible exact new_0)
local macro_rules | `(tactic| contradiction) => `(tactic| with_reducible exact fin_l1)
local macro_rules | `(tactic| contradiction) => `(tactic| with_reducible exact fin_l)
local macro_rules | `(tactic| contradiction) => `(tactic| with_reducible exact fin_v)
local macro_rules | `(tactic| contradiction) => `(tactic| with_reducible apply lcb2f)
local macro_rules | `(tactic| contradiction) => `(tactic| with_reducible apply lcb2)
local macro_rules | `(tactic| contradiction) => `(tactic| with_reducible apply lcb1f)
local macro_rules | `(tactic| contradiction) => `(tactic| with_reducible apply lcb1)
local macro_rules | `(tactic| contradiction) => `(tactic| with_reducible apply b_app0)
local macro_rules | `(tactic| contradiction) => `(tactic| with_reducible apply b_app)
local macro_rules | `(tactic| contradiction) => `(tactic| with_reducible exact q_nil)
local macro_rules | `(tactic| contradiction) => `(tactic| with_reducible apply b_par)
local macro_rules | `(tactic| contradiction) => `(tactic| with_reducible exact b_brk)
local macro_rules | `(tactic| contradiction) => `(tactic| with_reducible exact b_cnt)
local macro_rules | `(tactic| contradiction) => `(tactic| with_reducible apply b_unp)
local macro_rules | `(tactic| contradiction) => `(tactic| with_reducible apply b_for rfl)
local macro_rules | `(tactic| contradiction) => `(tactic| with_reducible apply b_pass)
local macro_rules | `(tactic| contradiction) => `(tactic| with_reducible apply b_rse)
local macro_rules | `(tactic| contradiction) => `(tactic| with_reducible apply b_ite)
local macro_rules | `(tactic| contradiction) => `(tactic| with_reducible apply b_expr)
local macro_rules | `(tactic| contradiction) => `(tactic| with_reducible apply b_fld)
local macro_rules | `(tactic| contradiction) => `(tactic| with_reducible apply b_put)
local macro_rules | `(tactic| contradiction) => `(tactic| with_reducible apply b_asg)
local macro_rules | `(tactic| contradiction) => `(tactic| with_reducible exact b_retN)
local macro_rules | `(tactic| contradiction) => `(tactic| with_reducible apply b_ret)
local macro_rules | `(tactic| contradiction) => `(tactic| with_reducible apply t_len)
local macro_rules | `(tactic| contradiction) => `(tactic| with_reducible apply t_var)
local macro_rules | `(tactic| contradiction) => `(tactic| with_reducible apply t_con)
local macro_rules | `(tactic| contradiction) => `(tactic| with_reducible apply e_chn)
local macro_rules | `(tactic| contradiction) => `(tactic| with_reducible apply t_chn)
local macro_rules | `(tactic| contradiction) => `(tactic| with_reducible apply t_meth)
local macro_rules | `(tactic| contradiction) => `(tactic| with_reducible apply t_call)
local macro_rules | `(tactic| contradiction) => `(tactic| with_reducible apply t_blt)
local macro_rules | `(tactic| contradiction) => `(tactic| with_reducible apply t_isi)
local macro_rules | `(tactic| contradiction) => `(tactic| with_reducible apply tc_and)
local macro_rules | `(tactic| contradiction) => `(tactic| with_reducible apply tc_or)
local macro_rules | `(tactic| contradiction) => `(tactic| with_reducible apply t_not)
local macro_rules | `(tactic| contradiction) => `(tactic| with_reducible apply t_cmpP)
local macro_rules | `(tactic| contradiction) => `(tactic| with_reducible apply t_cmp)
local macro_rules | `(tactic| contradiction) => `(tactic| with_reducible exact bind_one)
local macro_rules | `(tactic| contradiction) => `(tactic| with_reducible apply lc2_2)
local macro_rules | `(tactic| contradiction) => `(tactic| with_reducible apply lc2_1)
local macro_rules | `(tactic| contradiction) => `(tactic| with_reducible apply lcFM2)
local macro_rules | `(tactic| contradiction) => `(tactic| with_reducible apply lcFM1)
local macro_rules | `(tactic| contradiction) => `(tactic| with_reducible apply lcF1)
local macro_rules | `(tactic| contradiction) => `(tactic| with_reducible apply e_lcmap)
local macro_rules | `(tactic| contradiction) => `(tactic| with_reducible apply e_lcFM)
local macro_rules | `(tactic| contradiction) => `(tactic| with_reducible apply e_lcF)
local macro_rules | `(tactic| contradiction) => `(tactic| with_reducible apply e_callV)
local macro_rules | `(tactic| contradiction) => `(tactic| with_reducible exact e_fnv)
local macro_rules | `(tactic| contradiction) => `(tactic| with_reducible apply e_sjn)
local macro_rules | `(tactic| contradiction) => `(tactic| with_reducible apply e_ssp)
local macro_rules | `(tactic| contradiction) => `(tactic| with_reducible apply e_rev)
local macro_rules | `(tactic| contradiction) => `(tactic| with_reducible apply e_len)
local macro_rules | `(tactic| contradiction) => `(tactic| with_reducible apply e_dic)
local macro_rules | `(tactic| contradiction) => `(tactic| with_reducible apply e_bm)
local macro_rules | `(tactic| contradiction) => `(tactic| with_reducible apply e_sl)
local macro_rules | `(tactic| contradiction) => `(tactic| with_reducible apply e_callK)
local macro_rules | `(tactic| contradiction) => `(tactic| with_reducible apply e_methK)
local macro_rules | `(tactic| contradiction) => `(tactic| with_reducible apply e_meth)
local macro_rules | `(tactic| contradiction) => `(tactic| with_reducible apply e_call)
local macro_rules | `(tactic| contradiction) => `(tactic| with_reducible apply ec_ife)
local macro_rules | `(tactic| contradiction) => `(tactic| with_reducible apply ec_and)
local macro_rules | `(tactic| contradiction) => `(tactic| with_reducible apply ec_or)
local macro_rules | `(tactic| contradiction) => `(tactic| with_reducible apply e_isi)
local macro_rules | `(tactic| contradiction) => `(tactic| with_reducible apply e_attr)
local macro_rules | `(tactic| contradiction) => `(tactic| with_reducible apply l_star)
local macro_rules | `(tactic| contradiction) => `(tactic| with_reducible apply l_cons rfl)
local macro_rules | `(tactic| contradiction) => `(tactic| with_reducible exact l_nil)
local macro_rules | `(tactic| contradiction) => `(tactic| with_reducible apply e_lst)
local macro_rules | `(tactic| contradiction) => `(tactic| with_reducible apply e_tup)
local macro_rules | `(tactic| contradiction) => `(tactic| with_reducible apply e_cmpP)
local macro_rules | `(tactic| contradiction) => `(tactic| with_reducible apply e_cmp)
local macro_rules | `(tactic| contradiction) => `(tactic| with_reducible apply e_neg)
local macro_rules | `(tactic| contradiction) => `(tactic| with_reducible apply e_not)
local macro_rules | `(tactic| contradiction) => `(tactic| with_reducible apply e_blt)
local macro_rules | `(tactic| contradiction) => `(tactic| with_reducible apply e_sub)
local macro_rules | `(tactic| contradiction) => `(tactic| with_reducible apply e_bin)
local macro_rules | `(tactic| contradiction) => `(tactic| with_reducible apply e_var)
local macro_rules | `(tactic| contradiction) => `(tactic| with_reducible exact e_cnon)
local macro_rules | `(tactic| contradiction) => `(tactic| with_reducible exact e_cbl)
local macro_rules | `(tactic| contradiction) => `(tactic| with_reducible exact e_cstr)
local macro_rules | `(tactic| contradiction) => `(tactic| with_reducible exact e_cint)
theorem cell_k (n : Nat) (ns : List Int) (k : Nat) (md : Nat) (S) : ∃ i, hcN P es (n + 1) F__law_cell [.scr ns, .int k] md S = .ok (.int i) S := by
  by_cases h : k < ns.length
  · refine ⟨ns[k], ?_⟩
    rw [r__law_cell]
    apply runR (τ0 := [some (.scr ns), some (.int k)]) rfl rfl
    repeat contradiction
    · show (atI ns k).map D.int = _
      unfold atI ixN
      rw [if_pos (by omega), if_pos (by omega)]
      simp [h]
      rfl
    all_goals rfl
  · refine ⟨0, ?_⟩
    rw [r__law_cell]
    apply runR (τ0 := [some (.scr ns), some (.int k)]) rfl rfl
    repeat contradiction
    all_goals rfl
theorem take_k (n : Nat) {b w : Nat} {m : Int} {S : List (Option Gc.D)} (h : BoxAt S b w) (hw : w < 10 ^ 9) (hm : 0 < m) (hm2 : m < 2 ^ 200) (md : Nat) :
    ∃ d S', hcN P es (n + 1) F__law_take [.ref b, .int m] md S = .ok (.int d) S' ∧ 0 ≤ d ∧ d < m ∧ Drw b (w + 1) S S' ∧ S'.length = S.length := by
  have hlt := h.lt
  obtain ⟨x, y, z, hb, hx, hy, hyw, hz, hz2⟩ := h
  by_cases hbig : 10 ^ 18 ≤ x
  · refine ⟨x % m, S.set b (some (.lst [.int (x / m), .int y, .int z])), ?_, Int.emod_nonneg _ (by omega), Int.emod_lt_of_pos _ hm, ⟨⟨x / m, y, z, List.getElem?_set_self hlt, Int.ediv_nonneg hx (by omega), hy, by omega, hz, hz2⟩, by rw [List.length_set]; omega, fun i hi _ => List.getElem?_set_ne (fun e => hi e.symm)⟩, List.length_set⟩
    rw [r__law_take]
    apply runR (τ0 := [some (.ref b), some (.int m), none, none]) rfl rfl
    repeat contradiction
    all_goals rfl
  · have hs : (S.set b (some (.lst [.int x, .int (y + 1), .int z])))[b]? = some (some (.lst [.int x, .int (y + 1), .int z])) := List.getElem?_set_self hlt
    have hr : ∃ r : Int, r = ((((x + 7) * 69069 + (y + 1) * 40692 + z) ^ 3 % 2147483647 + (y + 1) * 17389) ^ 3 % 2147483399) := ⟨_, rfl⟩
    refine ⟨((((x + 7) * 69069 + (y + 1) * 40692 + z) ^ 3 % 2147483647 + (y + 1) * 17389) ^ 3 % 2147483399) / 64 % m, S.set b (some (.lst [.int x, .int (y + 1), .int z])), ?_, Int.emod_nonneg _ (by omega), Int.emod_lt_of_pos _ hm, ⟨⟨x, y + 1, z, hs, hx, by omega, by omega, hz, hz2⟩, by rw [List.length_set]; omega, fun i hi _ => List.getElem?_set_ne (fun e => hi e.symm)⟩, List.length_set⟩
    have hp : ∀ i : Int, 0 ≤ i → i < 2 ^ 120 → binD (S.set b (some (.lst [.int x, .int (y + 1), .int z]))) .Pow (.int i) (.int 3) = some (.v (.int (i ^ 3))) := fun i h1 h2 => by
      have hb := bits_small (i := i) (by omega)
      exact pow_k ⟨by omega, by omega⟩
    have hM : ∀ i j : Int, 0 ≤ i → i < 2 ^ 100 → 0 ≤ j → j < 2 ^ 100 → binD (S.set b (some (.lst [.int x, .int (y + 1), .int z]))) .Mult (.int i) (.int j) = some (.v (.int (i * j))) := fun i j h1 h2 h3 h4 => mul_k (mul_small (by omega) (by omega))
    rw [r__law_take]
    apply runR (τ0 := [some (.ref b), some (.int m), none, none]) rfl rfl
    repeat contradiction
    all_goals first | (apply hM <;> omega) | (apply hp <;> omega) | skip
    all_goals rfl
theorem box_k (n : Nat) (ns : List Int) (k : Nat) (hk : k < 1000) (S) : ∃ x z : Int, hcN P es (n + 2) F__law_box [.scr ns, .int k] 1 S = .ok (.ref S.length) (S ++ [some (.lst [.int x, .int 0, .int z])]) ∧ 0 ≤ x ∧ 0 ≤ z ∧ z ≤ 10 ^ 9 := by
  obtain ⟨i, hi⟩ := cell_k n ns k 0 S
  refine ⟨if i < 0 then -i else i, 40503 * k + 911, ?_, by split <;> omega, by omega, by omega⟩
  rw [r__law_box]
  apply runR (τ0 := [some (.scr ns), some (.int k)]) rfl rfl
  repeat contradiction
  all_goals first | (refine mul_k (mul_small ?_ ?_) <;> omega) | skip
  all_goals rfl
theorem shape_k (n : Nat) {b w : Nat} {S : List (Option Gc.D)} (hb : BoxAt S b w) (hw : w + 4 < 10 ^ 9) : ∃ (h wd : Nat) (a c : Int) (S' : List (Option Gc.D)), hcN P es (n + 2) F__law_shape [.ref b, .int 5] 0 S = .ok (formD h wd a c) S' ∧ ShOk h wd a c ∧ Drw b (w + 4) S S' ∧ S'.length = S.length := by
  obtain ⟨d1, S1, k1, d10, d11, D1, L1⟩ := take_k n hb (by omega) (show (0 : Int) < 5 by omega) (by omega) 0
  obtain ⟨d2, S2, k2, d20, d21, D2, L2⟩ := take_k n D1.box (by omega) (show (0 : Int) < 5 by omega) (by omega) 0
  obtain ⟨d3, S3, k3, d30, d31, D3, L3⟩ := take_k n D2.box (by omega) (show (0 : Int) < 1 + d1 by omega) (by omega) 0
  obtain ⟨d4, S4, k4, d40, d41, D4, L4⟩ := take_k n D3.box (by omega) (show (0 : Int) < 1 + d2 by omega) (by omega) 0
  have e1 : ((1 + d1).toNat : Int) = 1 + d1 := by omega
  have e2 : ((1 + d2).toNat : Int) = 1 + d2 := by omega
  refine ⟨(1 + d1).toNat, (1 + d2).toNat, d3, d4, S4, ?_, ⟨by omega, by omega, by omega, by omega, d30, by omega, d40, by omega⟩, ((D1.trans D2).trans D3).trans D4, by omega⟩
  show hcN P es (n + 2) F__law_shape [.ref b, .int 5] 0 S = .ok (.tup [.int ((1 + d1).toNat : Int), .int ((1 + d2).toNat : Int), .int d3, .int d4]) S4
  rw [e1, e2, r__law_shape]
  apply runR (τ0 := [some (.ref b), some (.int 5), none, none]) rfl rfl
  repeat contradiction
  all_goals rfl
theorem some_k (n : Nat) {b w0 : Nat} {S : List (Option Gc.D)} (hb : BoxAt S b w0) (hw0 : w0 + 40 < 10 ^ 9) {h w : Nat} {a c : Int} (C : ShOk h w a c) : ∃ (l : List (Int × Int)) (S' : List (Option Gc.D)), hcN P es (n + 2) F__law_some [.ref b, formD h w a c] 0 S = .ok (.lst (l.map enC)) S' ∧ l.Sublist (cells h w) ∧ Drw b (w0 + 40) S S' ∧ S'.length = S.length := by
  have hh := C.h5
  have hw := C.w5
  have hcl : (cells h w).length ≤ 36 := by rw [cells_len]; exact Nat.mul_le_mul hh hw
  obtain ⟨d1, S1, k1, d10, d11, D1, L1⟩ := take_k n hb (by omega) (show (0 : Int) < 4 by omega) (by omega) 0
  have hsrc : evL P (hcN P es (n + 1)) ([], []) [.call 14 [.var 1 false]] 0 ⟨[some (.ref b), some (formD h w a c), some (.int (1 + d1)), none], S1⟩ = .ok [.lst ((cells h w).map enC)] ⟨[some (.ref b), some (formD h w a c), some (.int (1 + d1)), none], S1⟩ := by
    have hk := lcells_k n h w a c hh hw S1
    repeat contradiction
  obtain ⟨ys, S8, h8, l, r, e1, e2, e3, D8, L8⟩ := e_lcI (md := 0) (P := P) (hc := hcN P es (n + 1)) (xc := ([], [])) (ifs := [.cmp .Lt (.call 12 [.var 0 false, .con (.int 5)]) (.var 2 false)]) (e := .var 3 false) (own := [3]) (tg := .one 3) (w := .seq)
    (fun rest acc S6 => ∃ l r : List (Int × Int), acc = l.map enC ∧ rest = r.map enC ∧ (l ++ r).Sublist (cells h w) ∧ Drw b (w0 + 1 + (36 - r.length)) S S6 ∧ S6.length = S.length) hsrc rfl ⟨[], cells h w, rfl, rfl, by simp, D1.le (by omega), L1⟩ (by
      rintro x rest acc S6 ⟨l, r, g1, g2, g3, g4, g5⟩
      cases r with
      | nil => cases g2
      | cons cc r =>
        rw [List.map_cons] at g2
        cases g2
        have gl := g3.length_le
        rw [List.length_append, List.length_cons] at gl
        obtain ⟨d, S9, k9, d90, d91, D9, L9⟩ := take_k n g4.box (by omega) (show (0 : Int) < 5 by omega) (by omega) 0
        have D10 := (g4.trans D9).le (m := w0 + 1 + (36 - r.length)) (by rw [List.length_cons]; omega)
        by_cases hd : d < 1 + d1
        · refine ⟨some (enC cc), [some (.ref b), some (formD h w a c), some (.int (1 + d1)), some (enC cc)], S9, ?_, rfl, ?_⟩
          · apply lcb
            · rfl
            · apply s_one
              exact t_cmp (e_call (l_cons rfl (e_var rfl rfl) (l_cons rfl e_cint l_nil)) rfl rfl k9) (e_var rfl rfl) rfl
            · exact decide_eq_true hd
            · exact e_var rfl rfl
          · refine ⟨?_, l ++ [cc], r, by rw [g1]; simp, rfl, by simpa using g3, D10, by omega⟩
            rw [g1, List.length_map, sizeLine_eq]; omega
        · refine ⟨none, [some (.ref b), some (formD h w a c), some (.int (1 + d1)), some (enC cc)], S9, ?_, rfl, ?_⟩
          · apply lcb_no
            · rfl
            · apply s_one
              exact t_cmp (e_call (l_cons rfl (e_var rfl rfl) (l_cons rfl e_cint l_nil)) rfl rfl k9) (e_var rfl rfl) rfl
            · exact decide_eq_false hd
          · exact ⟨l, r, g1, rfl, (List.Sublist.append_left (List.sublist_cons_self cc r) l).trans g3, D10, by omega⟩)
  have er : r = [] := by cases r with | nil => rfl | cons _ _ => cases e2
  subst er
  rw [List.append_nil] at e3
  refine ⟨l, S8, ?_, e3, D8.le (by simp), L8⟩
  rw [r__law_some]
  apply runR (τ0 := [some (.ref b), some (formD h w a c), none, none]) rfl rfl
  · apply b_asg
    · repeat contradiction
    · apply b_ret
      exact h8.trans (by rw [e1]; exact new_0)
  all_goals rfl
end K06

end

section
set_option Elab.async false
set_option linter.all false
set_option maxRecDepth 100000
set_option maxHeartbeats 1000000
/-! k06: what pictures tell -/
namespace K06
open PySem PySem.Spec L2 Gc
theorem cells_nodup : ∀ h w : Nat, (cells h w).Nodup
  | 0, w => by unfold cells; simp
  | h + 1, w => by
    rw [cells_succ, List.nodup_append]
    refine ⟨cells_nodup h w, List.Pairwise.map _ (fun a b hab => by intro e; apply hab; have h9 := congrArg Prod.snd e; dsimp only at h9; omega) List.nodup_range, fun c hc d hd e => ?_⟩
    have := cells_mem hc
    obtain ⟨j, _, e2⟩ := List.mem_map.mp hd
    rw [e, ← e2] at this
    omega
theorem filter_sub {α : Type} [DecidableEq α] : ∀ {m l : List α}, l.Sublist m → m.Nodup → m.filter (fun c => decide (c ∈ l)) = l
  | _, _, .slnil, _ => rfl
  | _, _, .cons (l₁ := l) (l₂ := m) a s, nd => by
    rw [List.nodup_cons] at nd
    have ha : a ∉ l := fun h => nd.1 (s.subset h)
    rw [List.filter_cons, decide_eq_false ha]
    exact filter_sub s nd.2
  | _, _, .cons_cons (l₁ := l) (l₂ := m) a s, nd => by
    rw [List.nodup_cons] at nd
    rw [List.filter_cons, decide_eq_true List.mem_cons_self]
    simp only [if_true]
    congr 1
    rw [← filter_sub s nd.2]
    refine List.filter_congr fun c hc => ?_
    have hca : c ≠ a := fun e => nd.1 (e ▸ hc)
    rw [filter_sub s nd.2]
    simp [hca]
theorem mem_turned {α : Type} (l : List α) (n : Nat) (c : α) : c ∈ l.reverse ++ l.take n ↔ c ∈ l := by
  rw [List.mem_append, List.mem_reverse]
  exact ⟨fun h => h.elim id fun h => List.mem_of_mem_take h, .inl⟩
theorem sub_all {h w : Nat} {l : List (Int × Int)} (s : ∀ c ∈ l, c ∈ cells h w) : l.all (isCell h w) = true := by
  rw [List.all_eq_true]
  intro c hc
  have := cells_mem (s c hc)
  unfold isCell
  simp [this.1, this.2.1, this.2.2.1, this.2.2.2]
/-! ### the text of a row -/
theorem tl_empty (ys : List Str) : (Txt.join "" ys).cps.toList = ys.flatMap fun y => y.cps.toList := by
  have e := TL.tl_join ("" : Str) ys
  have e2 : (Txt.join "" ys).cps.toList = TL.joinL [] (ys.map TL.tl) := by
    rw [TL.join_eq]; exact e
  rw [e2]
  have key : ∀ l : List (List Nat), TL.joinL [] l = l.flatten := by
    intro l
    induction l with
    | nil => rfl
    | cons a l ih =>
      cases l with
      | nil => simp [TL.joinL]
      | cons b l =>
        show a ++ ([] ++ TL.joinL [] (b :: l)) = _
        rw [ih]
        simp
  rw [key, List.flatMap_def]
def code (l : List (Int × Int)) (c : Int × Int) : Nat := cond (decide (c ∈ l)) 120 46
theorem sgn_tl (l : List (Int × Int)) (c : Int × Int) : (sgn l c).cps.toList = [code l c] := by
  unfold sgn code
  cases decide (c ∈ l) <;> decide +kernel
theorem row_tl (w : Nat) (l : List (Int × Int)) (i : Nat) : (rowT w l i).cps.toList = (List.range w).map fun j : Nat => code l ((i : Int), (j : Int)) := by
  unfold rowT
  rw [tl_empty, List.flatMap_map]
  simp only [sgn_tl]
  induction List.range w with
  | nil => rfl
  | cons a t ih => rw [List.flatMap_cons, ih]; rfl
theorem row_len (w : Nat) (l : List (Int × Int)) (i : Nat) : (rowT w l i).length = w := by
  have := congrArg List.length (row_tl w l i)
  simpa [Str.length] using this
theorem code_or (l : List (Int × Int)) (c : Int × Int) : code l c = 120 ∨ code l c = 46 := by unfold code; cases decide (c ∈ l); exact .inr rfl; exact .inl rfl
theorem row_char {w : Nat} {l : List (Int × Int)} {i c : Nat} (hc : c ∈ (rowT w l i).cps.toList) : c = 120 ∨ c = 46 := by
  rw [row_tl] at hc
  obtain ⟨j, _, e⟩ := List.mem_map.mp hc
  rw [← e]; exact code_or _ _
theorem xdot : ("x." : Str).cps.toList = [120, 46] := by decide +kernel
theorem nl_tl : ("\n" : Str).cps.toList = [10] := by decide +kernel
theorem rows_split {h w : Nat} (hh : 1 ≤ h) (l : List (Int × Int)) : lns (pic h w l) = (List.range h).map (rowT w l) := by
  unfold lns pic
  refine TL.split_join (s := 10) (S := []) nl_tl (by decide +kernel) ?_ fun p hp => ?_
  · intro e
    have := congrArg List.length e
    simp at this
    omega
  · obtain ⟨i, _, e⟩ := List.mem_map.mp hp
    subst e
    intro hc
    have := row_char hc
    omega
theorem get_rows {h w : Nat} {l : List (Int × Int)} {i : Nat} (hi : i < h) : ((List.range h).map (rowT w l)).getD i Str.empty = rowT w l i := by
  rw [List.getD_eq_getElem?_getD, List.getElem?_map, List.getElem?_range hi]; rfl
theorem told_pic {h w : Nat} (hh : 1 ≤ h) {l : List (Int × Int)} (hl : l.Sublist (cells h w)) : told h w (pic h w l) = .inr l := by
  have hr := rows_split (w := w) hh l
  have hf : fstB h w (lns (pic h w l)) = none := by
    unfold fstB
    rw [hr, List.find?_eq_none]
    rintro ⟨y, k⟩ hq
    have hq := List.mem_zipIdx_iff_getElem?.mp hq
    have hk : k < h := by
      have := (List.getElem?_eq_some_iff.mp hq).1
      simpa using this
    rw [List.getElem?_map] at hq
    have ey : rowT w l k = y := by
      have e9 : (List.range h)[k]? = some k := List.getElem?_range hk
      dsimp only at hq
      rw [e9] at hq
      simpa using hq
    subst ey
    unfold badL
    have e1 : decide ((k : Int) = h) = false := decide_eq_false (by omega)
    have e2 : decide (((rowT w l k).length : Int) = w) = true := decide_eq_true (by rw [row_len])
    have e3 : ((rowT w l k).cps.toList.all fun c => decide (c ∈ ("x." : Str).cps.toList)) = true := by
      rw [List.all_eq_true, xdot]
      intro c hc
      rcases row_char hc with e | e <;> subst e <;> decide
    dsimp only
    rw [e1, e2, e3]
    decide
  unfold told
  rw [hf]
  dsimp only
  rw [hr, List.length_map, List.length_range, if_neg (Nat.lt_irrefl h)]
  congr 1
  unfold lostOf
  refine Eq.trans (List.filter_congr fun c hc => ?_) (filter_sub hl (cells_nodup h w))
  have hm := cells_mem hc
  refine decide_eq_decide.mpr ?_
  unfold sg
  rw [get_rows (by omega), row_tl, List.getD_eq_getElem?_getD, List.getElem?_map, List.getElem?_range (by omega)]
  have ec : (((c.1.toNat : Nat) : Int), ((c.2.toNat : Nat) : Int)) = c := by
    have h1 : ((c.1.toNat : Nat) : Int) = c.1 := by omega
    have h2 : ((c.2.toNat : Nat) : Int) = c.2 := by omega
    rw [h1, h2]
  simp only [Option.map_some, Option.getD_some, ec]
  unfold code
  constructor
  · intro e
    by_cases hcl : c ∈ l
    · exact hcl
    · rw [decide_eq_false hcl] at e
      exact absurd e (by decide +kernel)
  · intro hcl
    rw [decide_eq_true hcl]
    decide +kernel
/-! ### texts that are small -/
structure Sm (n : Nat) (x : Str) : Prop where
  len : x.length ≤ n
  ok : PyData.strOk x = true
theorem Sm.app {n m : Nat} {x y : Str} (h : Sm n x) (g : Sm m y) : Sm (n + m) (x ++ y) := by
  refine ⟨by rw [Str.length_append]; have := h.len; have := g.len; omega, strOk_iff.mpr fun c hc => ?_⟩
  rw [show (x ++ y).cps.toList = x.cps.toList ++ y.cps.toList from TL.tl_append x y] at hc
  rcases List.mem_append.mp hc with hc | hc
  · exact strOk_iff.mp h.ok c hc
  · exact strOk_iff.mp g.ok c hc
theorem Sm.cut {n : Nat} {x : Str} (h : Sm n x) (lo hi : Option Int) : Sm n (cutS x lo hi) := by
  have e : (cutS x lo hi).cps.toList = (x.cps.toList.drop (HT.sIx x.length 0 lo)).take (HT.sIx x.length x.length hi - HT.sIx x.length 0 lo) := by unfold cutS; simp
  refine ⟨?_, strOk_iff.mpr fun c hc => ?_⟩
  · have h1 : (cutS x lo hi).length = (cutS x lo hi).cps.toList.length := by simp [Str.length]
    have h2 : x.cps.toList.length = x.length := by simp [Str.length]
    rw [h1, e, List.length_take, List.length_drop, h2]
    have := h.len
    omega
  · rw [e] at hc
    exact strOk_iff.mp h.ok c (List.mem_of_mem_drop (List.mem_of_mem_take hc))
theorem Sm.row {w : Nat} (hw : w ≤ 6) (l : List (Int × Int)) (i : Nat) : Sm 6 (rowT w l i) := ⟨by rw [row_len]; exact hw, strOk_iff.mpr fun c hc => by rcases row_char hc with e | e <;> omega⟩
theorem Sm.join {ys : List Str} {m : Nat} (hy : ∀ y ∈ ys, Sm 6 y) (hm : ys.length ≤ m) : Sm (m * 7) (Txt.join "\n" ys) := by
  refine ⟨?_, strOk_iff.mpr fun c hc => ?_⟩
  · refine Nat.le_trans (join_len _ _) ?_
    have := sum_le (fun x : Str => x.length) 6 ys fun y h => (hy y h).len
    show _ + ys.length * 1 ≤ _
    omega
  · have e : (Txt.join "\n" ys).cps.toList = TL.joinL [10] (ys.map TL.tl) := by
      rw [TL.join_eq]
      have := TL.tl_join ("\n" : Str) ys
      rw [show TL.tl ("\n" : Str) = [10] from nl_tl] at this
      exact this
    rw [e] at hc
    clear e
    have key : ∀ ys : List Str, (∀ y ∈ ys, Sm 6 y) → ∀ c ∈ TL.joinL [10] (ys.map TL.tl), c < 0x110000 := by
      intro ys
      induction ys with
      | nil => intro _ c hc; cases hc
      | cons y ys ih =>
        intro hy c hc
        cases ys with
        | nil => exact strOk_iff.mp (hy y List.mem_cons_self).ok c (by simpa [TL.joinL] using hc)
        | cons z zs =>
          have hc : c ∈ TL.tl y ++ ([10] ++ TL.joinL [10] ((z :: zs).map TL.tl)) := hc
          rcases List.mem_append.mp hc with hc | hc
          · exact strOk_iff.mp (hy y List.mem_cons_self).ok c hc
          · rcases List.mem_append.mp hc with hc | hc
            · have : c = 10 := by simpa using hc
              omega
            · exact ih (fun y h => hy y (List.mem_cons_of_mem _ h)) c hc
    exact key ys hy c hc
theorem ne_told {S : List (Option Gc.D)} {h w : Nat} {x : Str} : cmpD S .NotEq (toldD h w x) (toldD h w x) = some false := by
  unfold toldD
  cases told h w x with
  | inl k => exact (ne_int (i := (k : Int)) (j := (k : Int))).trans (by simp)
  | inr l => exact (ne_cells (l := l) (m := l)).trans (by simp)
end K06

end

section
set_option Elab.async false
set_option linter.all false
set_option maxRecDepth 100000
set_option maxHeartbeats 4000000
namespace K06
open PySem PySem.Spec L2 Gc
open Enc (en)
local macro_rules | `(tactic| contradiction) => `(tactic| ((with_reducible change rdV _ = _); assumption))
local macro_rules | `(tactic| contradiction) => `(tactic| ((with_reducible change isiD _ _ _ _ = _); assumption))
local macro_rules | `(tactic| contradiction) => `(tactic| ((with_reducible change hcN _ _ _ _ _ _ _ = _); assumption))
local macro_rules | `(tactic| contradiction) => `(tactic| with_reducible assumption)
local macro_rules | `(tactic| contradiction) => `(tactic| ((with_reducible change _ ≤ sizeLine); rw [sizeLine_eq]; first | omega | (simp only [List.length_cons, List.length_nil, List.length_map, List.length_range, List.length_zipIdx]; omega)))
local macro_rules | `(tactic| contradiction) => `(tactic| ((with_reducible change @Eq Bool _ _); exact rfl))
local macro_rules | `(tactic| contradiction) => `(tactic| ((with_reducible change wipeT _ _ = _); exact rfl))
local macro_rules | `(tactic| contradiction) => `(tactic| ((with_reducible change wipeT _ _ = wipeT _ _); exact rfl))
local macro_rules | `(tactic| contradiction) => `(tactic| ((with_reducible change @Eq (List Str) _ _); exact rfl))
local macro_rules | `(tactic| contradiction) => `(tactic| ((with_reducible change @Eq Nat _ _); exact rfl))
local macro_rules | `(tactic| contradiction) => `(tactic| ((with_reducible change lenD _ _ = _); exact rfl))
local macro_rules | `(tactic| contradiction) => `(tactic| ((with_reducible change revD _ _ = _); exact rfl))
local macro_rules | `(tactic| contradiction) => `(tactic| ((with_reducible change lookK _ _ _ = _); exact rfl))
local macro_rules | `(tactic| contradiction) => `(tactic| ((with_reducible change isUp _ _ _ = _); exact rfl))
local macro_rules | `(tactic| contradiction) => `(tactic| ((with_reducible change Cl.exc _ = _); exact rfl))
local macro_rules | `(tactic| contradiction) => `(tactic| ((with_reducible change Pg.cl _ _ = _); exact rfl))
local macro_rules | `(tactic| contradiction) => `(tactic| ((with_reducible change lstOk _ _ = _); exact rfl))
local macro_rules | `(tactic| contradiction) => `(tactic| ((with_reducible change optI _ _ _ = _); exact rfl))
local macro_rules | `(tactic| contradiction) => `(tactic| ((with_reducible change seqD _ _ = _); exact rfl))
local macro_rules | `(tactic| contradiction) => `(tactic| ((with_reducible change methD _ _ _ _ = _); exact rfl))
local macro_rules | `(tactic| contradiction) => `(tactic| ((with_reducible change attrD _ _ _ _ = _); exact rfl))
local macro_rules | `(tactic| contradiction) => `(tactic| ((with_reducible change walkD _ _ _ = _); exact rfl))
local macro_rules | `(tactic| contradiction) => `(tactic| ((with_reducible change isiD _ _ _ _ = _); exact rfl))
local macro_rules | `(tactic| contradiction) => `(tactic| ((with_reducible change slD _ _ _ _ = _); exact rfl))
local macro_rules | `(tactic| contradiction) => `(tactic| ((with_reducible change bltD _ _ _ = _); exact rfl))
local macro_rules | `(tactic| contradiction) => `(tactic| ((with_reducible change cmpD _ _ _ _ = _); exact rfl))
local macro_rules | `(tactic| contradiction) => `(tactic| ((with_reducible change subD _ _ _ = _); exact rfl))
local macro_rules | `(tactic| contradiction) => `(tactic| ((with_reducible change truD _ _ = _); exact rfl))
local macro_rules | `(tactic| contradiction) => `(tactic| ((with_reducible change (_ : List _)[_]? = _); exact rfl))
local macro_rules | `(tactic| contradiction) => `(tactic| (intro hk))
local macro_rules | `(tactic| contradiction) => `(tactic| (intro a ha))
local macro_rules | `(tactic| contradiction) => `(tactic| ((with_reducible change Rs.ok _ _ = Rs.ok _ _); with_reducible exact rfl))
local macro_rules | `(tactic| contradiction) => `(tactic| ((with_reducible change _ ∧ List.Nodup _ ∧ _); exact ⟨rfl, by decide, by decide⟩))
local macro_rules | `(tactic| contradiction) => `(tactic| with_reducible exact bind_t4)
local macro_rules | `(tactic| contradiction) => `(tactic| with_reducible exact bind_t3)
local macro_rules | `(tactic| contradiction) => `(tactic| with_reducible exact bind_t2)
local macro_rules | `(tactic| contradiction) => `(tactic| with_reducible exact bind_l3)
local macro_rules | `(tactic| contradiction) => `(tactic| with_reducible exact bind_l4)
local macro_rules | `(tactic| contradiction) => `(tactic| ((with_reducible apply lst_ref); assumption))
local macro_rules | `(tactic| contradiction) => `(tactic| ((with_reducible apply put_ref); assumption; exact rfl))
local macro_rules | `(tactic| contradiction) => `(tactic| ((with_reducible apply len_ref); assumption))
local macro_rules | `(tactic| contradiction) => `(tactic| ((with_reducible apply sub_ref); assumption; exact rfl))
local macro_rules | `(tactic| contradiction) => `(tactic| ((with_reducible refine e_frzL ?_); exact rfl))
local macro_rules | `(tactic| contradiction) => `(tactic| with_reducible exact lst_last)
local macro_rules | `(tactic| contradiction) => `(tactic| ((with_reducible refine app_last ?_); rw [sizeLine_eq]; first | omega | (simp only [List.length_map, List.length_append, List.length_cons, List.length_nil, List.length_range]; omega)))
local macro_rules | `(tactic| contradiction) => `(tactic| ((with_reducible apply fld_last); exact rfl; exact rfl; exact rfl; decide; exact rfl))
local macro_rules | `(tactic| contradiction) => `(tactic| ((with_reducible refine ne_str ?_ ?_) <;> first | assumption | decide +kernel))
local macro_rules | `(tactic| contradiction) => `(tactic| ((with_reducible refine eq_str ?_ ?_) <;> first | assumption | decide +kernel))
local macro_rules | `(tactic| contradiction) => `(tactic| ((with_reducible refine split_k ?_ ?_) <;> first | assumption | omega | decide))
local macro_rules | `(tactic| contradiction) => `(tactic| ((with_reducible refine add_str ?_); first | assumption | omega))
local macro_rules | `(tactic| contradiction) => `(tactic| ((with_reducible refine lenD_str ?_); first | assumption | omega))
local macro_rules | `(tactic| contradiction) => `(tactic| ((with_reducible refine sub_char ?_ ?_ ?_) <;> first | assumption | omega))
local macro_rules | `(tactic| contradiction) => `(tactic| ((with_reducible refine sub_strs ?_ ?_) <;> first | assumption | omega))
local macro_rules | `(tactic| contradiction) => `(tactic| ((with_reducible refine sub_pt ?_ ?_) <;> first | assumption | omega))
local macro_rules | `(tactic| contradiction) => `(tactic| ((with_reducible refine add_lst ?_); rw [sizeLine_eq]; simp only [List.length_map, List.length_append, List.length_cons, List.length_nil, List.length_range]; omega))
local macro_rules | `(tactic| contradiction) => `(tactic| ((with_reducible refine add_map ?_); first | omega | (simp only [List.length_map, List.length_append, List.length_cons, List.length_nil, List.length_range, List.length_reverse, List.length_take]; omega)))
local macro_rules | `(tactic| contradiction) => `(tactic| ((with_reducible refine lrange_k ?_ ?_) <;> omega))
local macro_rules | `(tactic| contradiction) => `(tactic| ((with_reducible refine walk_rng ?_); omega))
local macro_rules | `(tactic| contradiction) => `(tactic| ((with_reducible refine mulS ?_ ?_ ?_ ?_) <;> omega))
local macro_rules | `(tactic| contradiction) => `(tactic| ((with_reducible refine pow_3 ?_ ?_) <;> omega))
local macro_rules | `(tactic| contradiction) => `(tactic| ((with_reducible refine fdv_k ?_ ?_) <;> first | assumption | omega))
local macro_rules | `(tactic| contradiction) => `(tactic| ((with_reducible refine mod_k ?_); first | assumption | omega))
local macro_rules | `(tactic| contradiction) => `(tactic| with_reducible exact notin_sign)
local macro_rules | `(tactic| contradiction) => `(tactic| with_reducible exact in_sign)
local macro_rules | `(tactic| contradiction) => `(tactic| with_reducible exact walk_str)
local macro_rules | `(tactic| contradiction) => `(tactic| with_reducible exact ne_nilR)
local macro_rules | `(tactic| contradiction) => `(tactic| with_reducible exact eq_nilR)
local macro_rules | `(tactic| contradiction) => `(tactic| with_reducible exact rev_k)
local macro_rules | `(tactic| contradiction) => `(tactic| with_reducible exact ne_cells)
local macro_rules | `(tactic| contradiction) => `(tactic| with_reducible exact eq_cells)
local macro_rules | `(tactic| contradiction) => `(tactic| with_reducible exact notin_cell)
local macro_rules | `(tactic| contradiction) => `(tactic| with_reducible exact in_cellt)
local macro_rules | `(tactic| contradiction) => `(tactic| with_reducible exact in_cell)
local macro_rules | `(tactic| contradiction) => `(tactic| with_reducible exact notin_takeT)
local macro_rules | `(tactic| contradiction) => `(tactic| with_reducible exact notin_take)
local macro_rules | `(tactic| contradiction) => `(tactic| with_reducible exact notin_int)
local macro_rules | `(tactic| contradiction) => `(tactic| with_reducible exact in_int)
local macro_rules | `(tactic| contradiction) => `(tactic| with_reducible exact walk_tup)
local macro_rules | `(tactic| contradiction) => `(tactic| with_reducible exact walk_lst)
local macro_rules | `(tactic| contradiction) => `(tactic| with_reducible exact walk_enumt _ _)
local macro_rules | `(tactic| contradiction) => `(tactic| with_reducible exact walk_enum _ _)
local macro_rules | `(tactic| contradiction) => `(tactic| with_reducible exact sl_from)
local macro_rules | `(tactic| contradiction) => `(tactic| with_reducible exact sl_to)
local macro_rules | `(tactic| contradiction) => `(tactic| with_reducible exact slf_map)
local macro_rules | `(tactic| contradiction) => `(tactic| with_reducible exact sl_map)
local macro_rules | `(tactic| contradiction) => `(tactic| with_reducible exact slt_map (by assumption))
local macro_rules | `(tactic| contradiction) => `(tactic| with_reducible exact sum_map _)
local macro_rules | `(tactic| contradiction) => `(tactic| with_reducible exact any_map _ _)
local macro_rules | `(tactic| contradiction) => `(tactic| with_reducible exact all_map _ _)
local macro_rules | `(tactic| contradiction) => `(tactic| with_reducible exact len_tup)
local macro_rules | `(tactic| contradiction) => `(tactic| with_reducible exact len_lst)
local macro_rules | `(tactic| contradiction) => `(tactic| with_reducible exact len_mapt)
local macro_rules | `(tactic| contradiction) => `(tactic| with_reducible exact len_map)
local macro_rules | `(tactic| contradiction) => `(tactic| with_reducible exact lenD_tup)
local macro_rules | `(tactic| contradiction) => `(tactic| with_reducible exact lenD_lst)
local macro_rules | `(tactic| contradiction) => `(tactic| with_reducible exact lenD_map)
local macro_rules | `(tactic| contradiction) => `(tactic| with_reducible exact pow_c)
local macro_rules | `(tactic| contradiction) => `(tactic| with_reducible exact sub_k)
local macro_rules | `(tactic| contradiction) => `(tactic| with_reducible exact add_k)
local macro_rules | `(tactic| contradiction) => `(tactic| with_reducible exact ne_int)
local macro_rules | `(tactic| contradiction) => `(tactic| with_reducible exact eq_int)
local macro_rules | `(tactic| contradiction) => `(tactic| with_reducible apply c_ife)
local macro_rules | `(tactic| contradiction) => `(tactic| with_reducible apply c_andV)
local macro_rules | `(tactic| contradiction) => `(tactic| with_reducible apply c_orV)
local macro_rules | `(tactic| contradiction) => `(tactic| with_reducible apply c_and)
local macro_rules | `(tactic| contradiction) => `(tactic| with_reducible apply c_or)
local macro_rules | `(tactic| contradiction) => `(tactic| ((with_reducible refine c_f ?_ ?_); · (first | with_reducible rfl | with_reducible assumption | ((with_reducible change (!List.any _ _) = _); exact rfl) | ((with_reducible change List.any _ _ = _); exact rfl) | (simp only [Bool.not_true, Bool.not_false, decide_eq_true_eq, decide_eq_false_iff_not, Bool.not_eq_true', Bool.not_eq_false', Int.not_lt, Int.not_le, Bool.or_eq_false_iff, Bool.or_eq_true, Bool.and_eq_true]; omega) | (simp; done))))
local macro_rules | `(tactic| contradiction) => `(tactic| ((with_reducible refine c_t ?_ ?_); · (first | with_reducible rfl | with_reducible assumption | ((with_reducible change (!List.any _ _) = _); exact rfl) | ((with_reducible change List.any _ _ = _); exact rfl) | (simp only [Bool.not_true, Bool.not_false, decide_eq_true_eq, decide_eq_false_iff_not, Bool.not_eq_true', Bool.not_eq_false', Int.not_lt, Int.not_le, Bool.or_eq_false_iff, Bool.or_eq_true, Bool.and_eq_true]; omega) | (simp; done))))
local macro_rules | `(tactic| contradiction) => `(tactic| ((with_reducible refine bk_f ?_ ?_); · (first | with_reducible rfl | with_reducible assumption | ((with_reducible change (!List.any _ _) = _); exact rfl) | ((with_reducible change List.any _ _ = _); exact rfl) | (simp only [Bool.not_true, Bool.not_false, decide_eq_true_eq, decide_eq_false_iff_not, Bool.not_eq_true', Bool.not_eq_false', Int.not_lt, Int.not_le, Bool.or_eq_false_iff, Bool.or_eq_true, Bool.and_eq_true]; omega) | (simp; done))))
local macro_rules | `(tactic| contradiction) => `(tactic| ((with_reducible refine bk_t ?_ ?_); · (first | with_reducible rfl | with_reducible assumption | ((with_reducible change (!List.any _ _) = _); exact rfl) | ((with_reducible change List.any _ _ = _); exact rfl) | (simp only [Bool.not_true, Bool.not_false, decide_eq_true_eq, decide_eq_false_iff_not, Bool.not_eq_true', Bool.not_eq_false', Int.not_lt, Int.not_le, Bool.or_eq_false_iff, Bool.or_eq_true, Bool.and_eq_true]; omega) | (simp; done))))
local macro_rules | `(tactic| contradiction) => `(tactic| with_reducible exact new_1)
local macro_rules | `(tactic| contradiction) => `(tactic| with_reducible exact new_0)
local macro_rules | `(tactic| contradiction) => `(tactic| with_reducible exact fin_l1)
local macro_rules | `(tactic| contradiction) => `(tactic| with_reducible exact fin_l)
local macro_rules | `(tactic| contradiction) => `(tactic| with_reducible exact fin_v)
local macro_rules | `(tactic| contradiction) => `(tactic| with_reducible apply lcb2f)
local macro_rules | `(tactic| contradiction) => `(tactic| with_reducible apply lcb2)
local macro_rules | `(tactic| contradiction) => `(tactic| with_reducible apply lcb1f)
local macro_rules | `(tactic| contradiction) => `(tactic| with_reducible apply lcb1)
local macro_rules | `(tactic| contradiction) => `(tactic| with_reducible apply b_app0)
local macro_rules | `(tactic| contradiction) => `(tactic| with_reducible apply b_app)
local macro_rules | `(tactic| contradiction) => `(tactic| with_reducible exact q_nil)
local macro_rules | `(tactic| contradiction) => `(tactic| with_reducible apply b_par)
local macro_rules | `(tactic| contradiction) => `(tactic| with_reducible exact b_brk)
local macro_rules | `(tactic| contradiction) => `(tactic| with_reducible exact b_cnt)
local macro_rules | `(tactic| contradiction) => `(tactic| with_reducible apply b_unp)
local macro_rules | `(tactic| contradiction) => `(tactic| with_reducible apply b_for rfl)
local macro_rules | `(tactic| contradiction) => `(tactic| with_reducible apply b_pass)
local macro_rules | `(tactic| contradiction) => `(tactic| with_reducible apply b_rse)
local macro_rules | `(tactic| contradiction) => `(tactic| with_reducible apply b_ite)
local macro_rules | `(tactic| contradiction) => `(tactic| with_reducible apply b_expr)
local macro_rules | `(tactic| contradiction) => `(tactic| with_reducible apply b_fld)
local macro_rules | `(tactic| contradiction) => `(tactic| with_reducible apply b_put)
local macro_rules | `(tactic| contradiction) => `(tactic| with_reducible apply b_asg)
local macro_rules | `(tactic| contradiction) => `(tactic| with_reducible exact b_retN)
local macro_rules | `(tactic| contradiction) => `(tactic| with_reducible apply b_ret)
local macro_rules | `(tactic| contradiction) => `(tactic| with_reducible apply t_len)
local macro_rules | `(tactic| contradiction) => `(tactic| with_reducible apply t_var)
local macro_rules | `(tactic| contradiction) => `(tactic| with_reducible apply t_con)
local macro_rules | `(tactic| contradiction) => `(tactic| with_reducible apply e_chn)
local macro_rules | `(tactic| contradiction) => `(tactic| with_reducible apply t_chn)
local macro_rules | `(tactic| contradiction) => `(tactic| with_reducible apply t_meth)
local macro_rules | `(tactic| contradiction) => `(tactic| with_reducible apply t_call)
local macro_rules | `(tactic| contradiction) => `(tactic| with_reducible apply t_blt)
local macro_rules | `(tactic| contradiction) => `(tactic| with_reducible apply t_isi)
local macro_rules | `(tactic| contradiction) => `(tactic| with_reducible apply tc_and)
local macro_rules | `(tactic| contradiction) => `(tactic| with_reducible apply tc_or)
local macro_rules | `(tactic| contradiction) => `(tactic| with_reducible apply t_not)
local macro_rules | `(tactic| contradiction) => `(tactic| with_reducible apply t_cmpP)
local macro_rules | `(tactic| contradiction) => `(tactic| with_reducible apply t_cmp)
local macro_rules | `(tactic| contradiction) => `(tactic| with_reducible exact bind_one)
local macro_rules | `(tactic| contradiction) => `(tactic| with_reducible apply lc2_2)
local macro_rules | `(tactic| contradiction) => `(tactic| with_reducible apply lc2_1)
local macro_rules | `(tactic| contradiction) => `(tactic| with_reducible apply lcFM2)
local macro_rules | `(tactic| contradiction) => `(tactic| with_reducible apply lcFM1)
local macro_rules | `(tactic| contradiction) => `(tactic| with_reducible apply lcF1)
local macro_rules | `(tactic| contradiction) => `(tactic| with_reducible apply e_lcmap)
local macro_rules | `(tactic| contradiction) => `(tactic| with_reducible apply e_lcFM)
local macro_rules | `(tactic| contradiction) => `(tactic| with_reducible apply e_lcF)
local macro_rules | `(tactic| contradiction) => `(tactic| with_reducible apply e_callV)
local macro_rules | `(tactic| contradiction) => `(tactic| with_reducible exact e_fnv)
local macro_rules | `(tactic| contradiction) => `(tactic| with_reducible apply e_sjn)
local macro_rules | `(tactic| contradiction) => `(tactic| with_reducible apply e_ssp)
local macro_rules | `(tactic| contradiction) => `(tactic| with_reducible apply e_rev)
local macro_rules | `(tactic| contradiction) => `(tactic| with_reducible apply e_len)
local macro_rules | `(tactic| contradiction) => `(tactic| with_reducible apply e_dic)
local macro_rules | `(tactic| contradiction) => `(tactic| with_reducible apply e_bm)
local macro_rules | `(tactic| contradiction) => `(tactic| with_reducible apply e_sl)
local macro_rules | `(tactic| contradiction) => `(tactic| with_reducible apply e_callK)
local macro_rules | `(tactic| contradiction) => `(tactic| with_reducible apply e_methK)
local macro_rules | `(tactic| contradiction) => `(tactic| with_reducible apply e_meth)
local macro_rules | `(tactic| contradiction) => `(tactic| with_reducible apply e_call)
local macro_rules | `(tactic| contradiction) => `(tactic| with_reducible apply ec_ife)
local macro_rules | `(tactic| contradiction) => `(tactic| with_reducible apply ec_and)
local macro_rules | `(tactic| contradiction) => `(tactic| with_reducible apply ec_or)
local macro_rules | `(tactic| contradiction) => `(tactic| with_reducible apply e_isi)
local macro_rules | `(tactic| contradiction) => `(tactic| with_reducible apply e_attr)
local macro_rules | `(tactic| contradiction) => `(tactic| with_reducible apply l_star)
local macro_rules | `(tactic| contradiction) => `(tactic| with_reducible apply l_cons rfl)
local macro_rules | `(tactic| contradiction) => `(tactic| with_reducible exact l_nil)
local macro_rules | `(tactic| contradiction) => `(tactic| with_reducible apply e_lst)
local macro_rules | `(tactic| contradiction) => `(tactic| with_reducible apply e_tup)
local macro_rules | `(tactic| contradiction) => `(tactic| with_reducible apply e_cmpP)
local macro_rules | `(tactic| contradiction) => `(tactic| with_reducible apply e_cmp)
local macro_rules | `(tactic| contradiction) => `(tactic| with_reducible apply e_neg)
local macro_rules | `(tactic| contradiction) => `(tactic| with_reducible apply e_not)
local macro_rules | `(tactic| contradiction) => `(tactic| with_reducible apply e_blt)
local macro_rules | `(tactic| contradiction) => `(tactic| with_reducible apply e_sub)
local macro_rules | `(tactic| contradiction) => `(tactic| with_reducible apply e_bin)
local macro_rules | `(tactic| contradiction) => `(tactic| with_reducible apply e_var)
local macro_rules | `(tactic| contradiction) => `(tactic| with_reducible exact e_cnon)
local macro_rules | `(tactic| contradiction) => `(tactic| with_reducible exact e_cbl)
local macro_rules | `(tactic| contradiction) => `(tactic| with_reducible exact e_cstr)
local macro_rules | `(tactic| contradiction) => `(tactic| with_reducible exact e_cint)
local macro_rules | `(tactic| contradiction) => `(tactic| with_reducible first | apply e_slHi rfl | apply e_slLo rfl)
local macro_rules | `(tactic| contradiction) => `(tactic| with_reducible first | exact sl_one | exact sl_two | exact slf_map1)
local macro_rules | `(tactic| contradiction) => `(tactic| ((with_reducible refine slS ?_); omega))
local macro_rules | `(tactic| contradiction) => `(tactic| with_reducible exact sub_strsN (by assumption))
theorem box_at {S : List (Option Gc.D)} {x z : Int} (hx : 0 ≤ x) (hz : 0 ≤ z) (hz2 : z ≤ 10 ^ 9) : BoxAt (S ++ [some (.lst [.int x, .int 0, .int z])]) S.length 0 := ⟨x, 0, z, last_at, hx, by omega, by omega, hz, hz2⟩
abbrev T0 (ns : List Int) : List (Option Gc.D) := [some (.scr ns), none, none, none, none, none, none, none, none, none, none, none, none, none, none, none, none, none, none]
theorem mx_ev (ns : List Int) : ∃ mx : Nat, mx ≤ 2 ∧ evL P (hcN P es 5) ([], []) [(.blt .max [(.con (.int 1)), (.blt .min [(.con (.int 2)), (.len (.var 0 false))])])] 0 ⟨T0 ns, []⟩ = .ok [.int mx] ⟨T0 ns, []⟩ := by
  have hm : ∃ mx : Nat, mx ≤ 2 ∧ (if (if (ns.length : Int) < 2 then (ns.length : Int) else 2) > 1 then (if (ns.length : Int) < 2 then (ns.length : Int) else 2) else 1) = (mx : Int) := by
    by_cases h2 : (ns.length : Int) < 2
    · rw [if_pos h2]
      by_cases h1 : (ns.length : Int) > 1
      · rw [if_pos h1]; exact ⟨ns.length, by omega, rfl⟩
      · rw [if_neg h1]; exact ⟨1, by omega, rfl⟩
    · rw [if_neg h2, if_pos (by omega)]; exact ⟨2, by omega, rfl⟩
  obtain ⟨mx, h1, h2⟩ := hm
  refine ⟨mx, h1, ?_⟩
  rw [← h2]
  repeat contradiction
theorem law_run (ns : List Int) : ∃ S', hcN P es 6 F_law [.scr ns] 0 [] = .ok (.bl true) S' := by
  have h : ∃ d S', runB P (hcN P es 5) ⟨1, 19, b_law⟩ [.scr ns] 0 [] = .ok d S' ∧ d = .bl true := by
    apply runs_run (τ0 := T0 ns) rfl rfl
    obtain ⟨mx, hmx, hev⟩ := mx_ev ns
    apply runs_for (fun rest s => (∃ S : List (Option Gc.D), s = ⟨T0 ns, S⟩) ∧ ∀ x ∈ rest, ∃ k : Nat, k < 2 ∧ x = .int k) rfl hev (walk_rng (by omega))
    · refine ⟨⟨[], rfl⟩, fun x hx => ?_⟩
      obtain ⟨a, ha, e⟩ := List.mem_map.mp hx
      exact ⟨a, by have := List.mem_range.mp ha; omega, e.symm⟩
    · rintro x rest s ⟨⟨S, es1⟩, hrest⟩
      subst es1
      obtain ⟨k, hk, ex⟩ := hrest x List.mem_cons_self
      subst ex
      have hrest' : ∀ x ∈ rest, ∃ k : Nat, k < 2 ∧ x = .int k := fun x hx => hrest x (List.mem_cons_of_mem _ hx)
      apply turn_ex
      obtain ⟨bx, bz, kb, hx0, hz0, hz1⟩ := box_k 3 ns k (by omega) S
      have B0 := box_at (S := S) hx0 hz0 hz1
      generalize hS1 : S ++ [some (.lst [.int bx, .int 0, .int bz])] = S1 at kb B0
      generalize S.length = b at kb B0
      apply wf_asg
      · repeat contradiction
      obtain ⟨h, w, a, c, S2, k2, C, D2, L2⟩ := shape_k 3 B0 (by omega)
      apply wf_asg
      · repeat contradiction
      have ki := init_k 2 C S2
      apply wf_asg
      · apply e_makeT
        · repeat contradiction
        · rfl
        · rfl
        · rfl
        · rfl
        · exact ki
      have hh := C.h5
      have hw := C.w5
      obtain ⟨l, S3, k3, hl, D3, L3⟩ := some_k 3 (D2.box.app [none]) (by omega) C
      apply wf_asg
      · repeat contradiction
      apply wf_asg
      · repeat contradiction
      have hll : l.length ≤ 36 := by have := hl.length_le; rw [cells_len] at this; have := Nat.mul_le_mul hh hw; omega
      generalize hS4 : S3.length = m3
      apply wf_eq
      · apply b_for rfl
        · repeat contradiction
        · exact walk_rng (by omega)
        · apply for_eqI (en := fun k : Nat => D.int (k : Int)) (st := fun g : List Str => ⟨[some (.scr ns), some (.int k), some (.ref b), some (formD h w a c), some (shapeD h w a c), some (.lst (l.map enC)), some (.ref m3), none, none, none, none, none, none, none, none, none, none, none, none], S3 ++ [some (.lst (g.map .str))]⟩) (g0 := []) (fun g (i : Nat) => g ++ [rowT w l i]) (fun i g => g.length ≤ i)
          · rfl
          · intro i i' hi g hg
            have hi4 : i < h := by have := (List.getElem?_eq_some_iff.mp hi).1; simpa using this
            subst hS4
            refine ⟨?_, by rw [List.length_append]; simp only [List.length_cons, List.length_nil]; omega⟩
            apply turn1
            repeat contradiction
            · exact row_join _ w l _ hw
            repeat contradiction
            · rw [List.map_append]
              rfl
            · rfl
          · simp
          · rw [foldl_snoc, List.nil_append]
        · rfl
      have hsm : ∀ y ∈ (List.range h).map (rowT w l), Sm 6 y := fun y hy => by
        obtain ⟨i, _, e⟩ := List.mem_map.mp hy
        rw [← e]; exact Sm.row hw l i
      have hrl : ((List.range h).map (rowT w l)).length = h := by simp
      have hpic : Sm 42 (pic h w l) := Sm.join (m := 6) hsm (by rw [hrl]; exact hh)
      have hrs : (((List.range h).map (rowT w l)).map (·.length)).sum ≤ 36 := by
        have := sum_le (fun x : Str => x.length) 6 ((List.range h).map (rowT w l)) fun y hy => (hsm y hy).len
        rw [hrl] at this
        omega
      have hpj : ∀ S, joinD S "\n" (.lst (((List.range h).map (rowT w l)).map .str)) = some (.str (pic h w l)) := fun S => join_strs (by rw [hrl]; show _ + h * 1 ≤ _; omega)
      have rows_ok : ∃ rows, (List.range h).map (rowT w l) = rows := ⟨_, rfl⟩
      obtain ⟨rows, hrows⟩ := rows_ok
      rw [hrows] at hsm hrl hrs hpj ⊢
      apply wf_asg
      · subst hS4
        apply e_sjn
        · exact e_cstr
        · exact e_frzL rfl
        · exact hpj _
      have B3 : BoxAt (S3 ++ [none]) b (0 + 4 + 40) := D3.box.app [none]
      generalize hS5 : S3 ++ [none] = S5 at B3
      have hfl : (cells h w).filter (fun c => decide (c ∈ l.reverse ++ l.take 1)) = l := by
        refine Eq.trans (List.filter_congr fun c _ => ?_) (filter_sub hl (cells_nodup h w))
        exact decide_eq_decide.mpr (mem_turned l 1 c)
      have kp := picture_k 1 h w a c hh hw (l.reverse ++ l.take 1) (by rw [List.length_append, List.length_reverse, List.length_take]; omega) (sub_all fun c hc => hl.subset ((mem_turned l 1 c).mp hc)) S5
      rw [hfl] at kp
      have ko := of_picture_k 3 h w a c hh hw (pic h w l) (by have := hpic.len; omega) hpic.ok 0 rfl S5
      rw [told_pic C.h1 hl] at ko
      dsimp only at ko
      have hpo := hpic.ok
      apply wf_ff
      · repeat contradiction
      · simp
      have hpl := hpic.len
      apply wf_for (fun rest s => ∃ S', s = ⟨[some (.scr ns), some (.int k), some (.ref b), some (formD h w a c), some (shapeD h w a c), some (.lst (l.map enC)), some (.lst (rows.map .str)), none, some (.str (pic h w l)), none, none, none, none, none, none, none, none, none, none], S'⟩ ∧ rest.length ≤ 8 ∧ BoxAt S' b (0 + 4 + 40 + 4 * (8 - rest.length))) rfl
      · repeat contradiction
      · exact walk_rng (n := 8) (by omega)
      · exact ⟨S5, rfl, by simp, B3⟩
      · rintro x rest' s ⟨S6, es2, hr8, B6⟩
        subst es2
        rw [List.length_cons] at B6 hr8
        apply turn_ex
        obtain ⟨d1, S7, k7, d10, d11, D7, L7⟩ := take_k 4 B6 (by omega) (show (0 : Int) < ((pic h w l).length : Int) + 1 by omega) (by omega) 0
        apply wf_asg
        · repeat contradiction
        obtain ⟨d2, S8, k8, d20, d21, D8, L8⟩ := take_k 4 D7.box (by omega) (show (0 : Int) < 7 by omega) (by omega) 0
        obtain ⟨sg1, hsg, hsub⟩ : ∃ y : Str, Sm 1 y ∧ subD S8 (.lst [.str "x", .str ".", .str "\n", .str "", .str "X", .str " ", .str "o"]) (.int d2) = some (.str y) := by
          have : d2 = 0 ∨ d2 = 1 ∨ d2 = 2 ∨ d2 = 3 ∨ d2 = 4 ∨ d2 = 5 ∨ d2 = 6 := by omega
          rcases this with e | e | e | e | e | e | e <;> subst e <;> exact ⟨_, ⟨by decide, by decide +kernel⟩, rfl⟩
        apply wf_asg
        · repeat contradiction
        have hsl := hsg.len
        obtain ⟨d3, S9, k9, d30, d31, D9, L9⟩ := take_k 4 D8.box (by omega) (show (0 : Int) < 2 by omega) (by omega) 0
        have hc1 := hpic.cut none (some d1)
        have hc2 := hpic.cut (some (d1 + d3)) none
        have hl1 := hc1.len
        have hl2 := hc2.len
        have hl3 := (hc1.app hsg).len
        apply wf_asg
        · repeat contradiction
        obtain ⟨d4, S10, k10, d40, d41, D10, L10⟩ := take_k 4 D9.box (by omega) (show (0 : Int) < (rows.length : Int) by have := C.h1; omega) (by omega) 0
        obtain ⟨rn, hrn⟩ : ∃ rn : Nat, d4 = rn := ⟨d4.toNat, by omega⟩
        subst hrn
        apply wf_asg
        · repeat contradiction
        have hsm2 : ∀ y ∈ rows.take rn ++ rows.drop (rn + 1), Sm 6 y := fun y hy => by
          rcases List.mem_append.mp hy with hy | hy
          · exact hsm y (List.mem_of_mem_take hy)
          · exact hsm y (List.mem_of_mem_drop hy)
        have hlen2 : (rows.take rn ++ rows.drop (rn + 1)).length ≤ 6 := by rw [List.length_append, List.length_take, List.length_drop]; omega
        have hj2 : ∀ S, joinD S "\n" (.lst ((rows.take rn ++ rows.drop (rn + 1)).map .str)) = some (.str (Txt.join "\n" (rows.take rn ++ rows.drop (rn + 1)))) := fun S => join_strs (by
          have := sum_le (fun x : Str => x.length) 6 (rows.take rn ++ rows.drop (rn + 1)) fun y hy => (hsm2 y hy).len
          show _ + _ * 1 ≤ _
          omega)
        have hj3 := Sm.join hsm2 hlen2
        apply wf_asg
        · repeat contradiction
          · exact add_map (f := D.str) (by rw [List.length_take, List.length_drop]; omega)
          repeat contradiction
          · exact hj2 _
        generalize Txt.join "\n" (rows.take rn ++ rows.drop (rn + 1)) = fewer at hj3
        have hnear := (hc1.app hsg).app hc2
        generalize cutS (pic h w l) none (some d1) ++ sg1 ++ cutS (pic h w l) (some (d1 + d3)) none = near at hnear
        have hrn : rn < rows.length := by omega
        have hrow : Sm 6 (rows.getD rn Str.empty) := hsm _ (by rw [List.getD_eq_getElem?_getD, List.getElem?_eq_getElem hrn]; simp)
        have hnl : Sm 1 ("\n" : Str) := ⟨by decide, by decide +kernel⟩
        have t3 := (hpic.app hnl).app hrow
        have t4 := hpic.app hnl
        have t5 := hnl.app hpic
        have hrow1 := hrow.len
        have t41 := t4.len
        have hnl1 := hnl.len
        have good : ∀ y ∈ [near, fewer, pic h w l ++ "\n" ++ rows.getD rn Str.empty, pic h w l ++ "\n", "\n" ++ pic h w l], Sm 300 y := fun y hy => by
          have hy : y = near ∨ y = fewer ∨ y = pic h w l ++ "\n" ++ rows.getD rn Str.empty ∨ y = pic h w l ++ "\n" ∨ y = "\n" ++ pic h w l := by simpa using hy
          rcases hy with e | e | e | e | e <;> subst e
          · exact ⟨by have := hnear.len; omega, hnear.ok⟩
          · exact ⟨by have := hj3.len; omega, hj3.ok⟩
          · exact ⟨by have := t3.len; omega, t3.ok⟩
          · exact ⟨by have := t4.len; omega, t4.ok⟩
          · exact ⟨by have := t5.len; omega, t5.ok⟩
        have hwk : ∀ S : List (Option Gc.D), walkD S .seq [.lst [.str near, .str fewer, .str (pic h w l ++ "\n" ++ rows.getD rn Str.empty), .str (pic h w l ++ "\n"), .str ("\n" ++ pic h w l)]] = some ([near, fewer, pic h w l ++ "\n" ++ rows.getD rn Str.empty, pic h w l ++ "\n", "\n" ++ pic h w l].map D.str) := fun S => rfl
        generalize [near, fewer, pic h w l ++ "\n" ++ rows.getD rn Str.empty, pic h w l ++ "\n", "\n" ++ pic h w l] = texts at good hwk
        apply wf_end
        · apply b_for rfl
          · repeat contradiction
          · exact hwk _
          · apply for_same
            intro y hy
            have gy := good y hy
            have hr := read_k 2 h w a c hh hw y gy.len gy.ok S10
            have hd := due_k 3 h w a c hh hw y gy.len gy.ok S10
            have hne := ne_told (S := S10) (h := h) (w := w) (x := y)
            apply turn1
            repeat contradiction
          · exact q_nil
        · refine ⟨.inl rfl, S10, rfl, by omega, ?_⟩
          have := D10.box.le (m := 0 + 4 + 40 + 4 * (8 - rest'.length)) (by omega)
          exact this
      · rintro s ⟨S6, es2, _, B6⟩
        subst es2
        obtain ⟨d1, S7, k7, d10, d11, D7, L7⟩ := take_k 4 B6 (by simp) (show (0 : Int) < 5 by omega) (by omega) 0
        have odd : ∃ o : Gc.D, subD S7 (.lst [.non, .int 5, .lst [.tup [.int 0, .int w]], .str "x", .lst [.tup [.int 0, .non]]]) (.int d1) = some o ∧ rdV o = true ∧ hcN P es 4 F_Shape_checked [shapeD h w a c, o] 0 S7 = .exn C_BadCells ["given"] [o] S7 ∧ cmpD S7 .NotEq o o = some false := by
          have : d1 = 0 ∨ d1 = 1 ∨ d1 = 2 ∨ d1 = 3 ∨ d1 = 4 := by omega
          rcases this with e | e | e | e | e <;> subst e
          · exact ⟨_, rfl, rfl, checked_no 1 h w a c _ 0 S7 rfl rfl, rfl⟩
          · exact ⟨_, rfl, rfl, checked_no 1 h w a c _ 0 S7 rfl rfl, rfl⟩
          · exact ⟨_, rfl, rfl, checked_out 1 h w a c 0 S7, (ne_cells (l := [(0, (w : Int))]) (m := [(0, (w : Int))])).trans (by simp)⟩
          · exact ⟨_, rfl, rfl, checked_no 1 h w a c _ 0 S7 rfl rfl, (ne_str (by decide +kernel) (by decide +kernel)).trans (by simp)⟩
          · exact ⟨_, rfl, rfl, checked_nn 1 h w a c 0 S7, rfl⟩
        obtain ⟨o, ho1, ho2, ho3, ho4⟩ := odd
        apply wf_asg
        · repeat contradiction
        have kp2 : hcN P es 5 F_Shape_picture [shapeD h w a c, o] 0 S7 = .exn C_BadCells ["given"] [o] S7 := by
          rw [r_Shape_picture]
          apply runX (τ0 := [some (shapeD h w a c), some o, none, none, none, none, none]) rfl rfl
          · apply q_x
            apply x_asgX
            apply e_methX
            · repeat contradiction
            · rfl
            · repeat contradiction
            · rfl
            · rfl
            · exact ho3
          all_goals rfl
        have hun : ∀ j : Option Gc.D, unX [some (.scr ns), some (.int k), some (.ref b), some (formD h w a c), some (shapeD h w a c), some (.lst (l.map enC)), some (.lst (rows.map .str)), none, some (.str (pic h w l)), none, some o, none, none, none, none, none, none, none, none] = [some (.scr ns), some (.int k), some (.ref b), some (formD h w a c), some (shapeD h w a c), some (.lst (l.map enC)), some (.lst (rows.map .str)), none, some (.str (pic h w l)), none, some o, none, none, none, none, none, none, none, none] := fun j => by
          cases o <;> first | rfl | cases ho2
        have hun2 : unX [some (.scr ns), some (.int k), some (.ref b), some (formD h w a c), some (shapeD h w a c), some (.lst (l.map enC)), some (.lst (rows.map .str)), none, some (.str (pic h w l)), none, some o, some .exc, none, none, none, none, none, none, none] = [some (.scr ns), some (.int k), some (.ref b), some (formD h w a c), some (shapeD h w a c), some (.lst (l.map enC)), some (.lst (rows.map .str)), none, some (.str (pic h w l)), none, some o, none, none, none, none, none, none, none, none] := by
          cases o <;> first | rfl | cases ho2
        have hexc : exH P (hcN P es 5) 0 (.cons 3 (some 11) (.cons (.ite (.cmpP .NotEq (.exf 11 "given") (.var 10 false)) (.cons (.ret (.con (.bl false))) .nil) .nil) (.cons .cnt .nil)) .nil) C_BadCells ["given"] [o] ⟨[some (.scr ns), some (.int k), some (.ref b), some (formD h w a c), some (shapeD h w a c), some (.lst (l.map enC)), some (.lst (rows.map .str)), none, some (.str (pic h w l)), none, some o, none, none, none, none, none, none, none, none], S7⟩ = .ok .ct ⟨[some (.scr ns), some (.int k), some (.ref b), some (formD h w a c), some (shapeD h w a c), some (.lst (l.map enC)), some (.lst (rows.map .str)), none, some (.str (pic h w l)), none, some o, none, none, none, none, none, none, none, none], S7⟩ := by
          have e1 : inX (some 11) [some (.scr ns), some (.int k), some (.ref b), some (formD h w a c), some (shapeD h w a c), some (.lst (l.map enC)), some (.lst (rows.map .str)), none, some (.str (pic h w l)), none, some o, none, none, none, none, none, none, none, none] = [some (.scr ns), some (.int k), some (.ref b), some (formD h w a c), some (shapeD h w a c), some (.lst (l.map enC)), some (.lst (rows.map .str)), none, some (.str (pic h w l)), none, some o, some .exc, none, none, none, none, none, none, none] := by
            unfold inX; rw [hun none]; rfl
          have e2 : outX (some 11) [some (.scr ns), some (.int k), some (.ref b), some (formD h w a c), some (shapeD h w a c), some (.lst (l.map enC)), some (.lst (rows.map .str)), none, some (.str (pic h w l)), none, some o, some .exc, none, none, none, none, none, none, none] = [some (.scr ns), some (.int k), some (.ref b), some (formD h w a c), some (shapeD h w a c), some (.lst (l.map enC)), some (.lst (rows.map .str)), none, some (.str (pic h w l)), none, some o, none, none, none, none, none, none, none, none] := by
            unfold outX; rw [hun2]; rfl
          rw [← e2]
          refine h_hit rfl ?_
          rw [e2, e1]
          exact b_ite (t_cmpP (e_exf rfl rfl) (e_var rfl ho2) ho4) b_cnt
        apply wf_end
        · apply q_cnt
          apply x_triX
          · apply q_x
            apply x_exprX
            apply e_methX
            · repeat contradiction
            · rfl
            · repeat contradiction
            · rfl
            · rfl
            · exact kp2
          · exact hexc
        · exact ⟨.inr rfl, ⟨S7, rfl⟩, hrest'⟩
    · rintro s ⟨⟨S, es1⟩, _⟩
      subst es1
      exact runs_ret (b_ret e_cbl) rfl
  obtain ⟨d, S', h1, h2⟩ := h
  subst h2
  exact ⟨S', h1⟩
end K06

end

section
set_option Elab.async false
set_option linter.all false
set_option maxRecDepth 100000
namespace Gc
open PySem PySem.Spec PyProof.Rows L2
/-- a law's end: what is promised may speak of the world -/
theorem law_end {l : PySem.W.OpenLaw} {m k : Nat} {q : Program} {loose : List Str} {XP : (Str → Option Value) → Heap → Prop} {YP : World → Heap → Prop} {d : DefRec} {CX : World → CXT} {x : Str} (hm : l.most = some m) (hs : m ≤ sizeLine) (hdf : d.params.defaults = []) (hr : Room k callerA)
    (F : ∀ (w : World) (mg : Str → Option Value) (fa : Addr) (h : Heap), YP w h → h.Ns mainGlobals mg → mg d.name = some (.ref fa) → ∃ (K : PySem.W.Frag) (fd : FuncData) (sp : Sp), K.In h ∧ (∀ (s : Shared) (u : Value), BindsTo s fd ⟨[u], []⟩ [(x, u)]) ∧
      (∀ (H : Hp) (a : Addr) (ns : List Int), ns.length ≤ m → Only H → SqL K H a (ns.map V.int) → sp [.ref a] H (fun v _ => v = .bl true) fun _ _ _ => False) ∧ ∀ base : Heap, K.In base → base.Ns mainGlobals mg → FnOk l.prog w K mg base (CX w) k fa fd [x] sp)
    (hX : ∀ (w : World) (H : Hp) (s : Shared) (e : Value) (s' : Shared), CX w [] H s (fun _ _ _ => False) e s' → False) : PySem.W.WalkO q loose XP YP l.row.toRowW d [] (fun f vs => PySem.call f vs) := by
  refine Att.attach_call hm hdf fun w s₀ s₁ mg mb fa o pm cd doc a vs ns G Y ho hd hcd hmg hobj hints hlen hg => ?_
  obtain ⟨K, fd, sp, KX, hb, hsp, hF⟩ := F w mg fa _ Y G.T.g hmg
  exact law_call KX G.T.g G.T.b G.T.builtins G.T.nolimit hg hobj hints (Nat.le_trans hlen hs) hr hF hb (fun H hO hS => hsp H a ns hlen hO hS) fun H e s' => hX w H s₁ e s'
end Gc
open PySem PySem.W PySem.Calls PyProof.Rows
set_option maxRecDepth 100000 in
set_option maxHeartbeats 0 in
theorem PySem.Challenge.cw_gridcodes_k06_pictures_holds : PySem.Challenge.rw_gridcodes_k06_pictures.Holds := by
  w_on; o_law
  refine HandSHeadRun.head_any (r := OpenLaw.row PySem.Challenge.rw_gridcodes_k06_pictures) (q := view (OpenLaw.row PySem.Challenge.rw_gridcodes_k06_pictures).prog [21]) (H := K06.hk) (ob := K06.ob) (M := 20000) (loose := K06.loose) (d := HandSHeadRun.topDef (OpenLaw.row PySem.Challenge.rw_gridcodes_k06_pictures).prog 21) (kwd := []) K06.ob_eq
    (by kernel_rfl) (fun s => by kernel_rfl) K06.run (by kernel_rfl) (by kernel_rfl) (by kernel_rfl) (by rfl) (by first | assumption | decide +kernel) (by decide +kernel) ⟨rfl, rfl, rfl, rfl, rfl, by decide +kernel⟩ ?hw ?hc
  case hw => w_witness2
  case hc =>
    refine Gc.law_end (l := PySem.Challenge.rw_gridcodes_k06_pictures) (m := 63) (k := 13) (x := "_law_script") (CX := fun w => L2.CX (PySem.Challenge.rw_gridcodes_k06_pictures).prog w) rfl (by decide) (by kernel_rfl) ⟨rfl, by decide, by decide⟩ ?F ?X
    case F =>
      intro w mg fa h Y G hmg0
      obtain ⟨K, KX, c, o⟩ := Y
      have hmg : mg ("law" : PySem.Str) = some (.ref fa) := by
        have e : (HandSHeadRun.topDef (OpenLaw.row PySem.Challenge.rw_gridcodes_k06_pictures).prog 21).name = ("law" : PySem.Str) := by kernel_rfl
        rw [← e]
        exact hmg0
      exact Gc.law_facts (L := K06.D) (es := K06.es) (nE := 40) (n := 60) (m := 6) (f := K06.F_law) (d := K06.dF "law" 21) (nn := 63) (lw := "law") KX G c o K06.st (by kernel_rfl) rfl (by kernel_rfl) (by kernel_rfl) hmg (fun ns _ => K06.law_run ns)
    case X =>
      intro w H s e s' z
      obtain ⟨_, _, _, _, _, _, _, _, _, _, _, _, z⟩ := z
      exact z


end
