import PyProof.Rows.All
import Wide.All
import OpenK.AllK
import Wide.FinOn
import PyProof.EqAt
import PyProof.EqKinds
import PyProof.TupleCall
import HandS.ForMost
import HandS.ForExc
import HandS.CallSlots
import HandS.Walk
import HandS.Zip
import HandS.IsInst
import HandS.Deep
import HandS.TupAny
import HandS.TupMul
import HandS.Conv
import HandS.SortInts
import HandS.Wide
import PyProof.SeqIndex
import PyProof.P3In
import HandS.StrMore
import HandS.Rev
import HandS.Style
import HandS.WordsExc
import HandS.TryOnly
import HandS.ExcIs
import HandS.Flow
import KE.GoesEnum
import PySem.Challenge.RW_typefoundry_k17_moves_and_outcomes
set_option Elab.async false
set_option linter.all false
set_option maxRecDepth 100000
set_option maxHeartbeats 4000000
namespace PL
open PySem PySem.Spec PyProof.Rows L2

/-! ### plain values -/
inductive D where
  | non | bl (b : Bool) | int (i : Int) | str (x : Str) | tup (xs : List D) | lst (xs : List D) | dic (kvs : List (D × D)) | scr (ns : List Int)
  deriving Inhabited
/-- what a name holds: a value that never changes; an object of one's own; (of an expression alone) the own object of a slot -/
inductive S where
  | v (d : D) | o (d : D) | b (i : Nat)
abbrev Rho := List (Option S)
inductive Out (α : Type) where
  | ok (a : α) | exc (c : Str) (ρ : Rho) | stuck
def Out.bind {α β : Type} : Out α → (α → Out β) → Out β
  | .ok a, f => f a
  | .exc c ρ, _ => .exc c ρ
  | .stuck, _ => .stuck
instance : Monad Out where
  pure := .ok
  bind := Out.bind
@[simp] theorem bind_ok {α β : Type} (a : α) (f : α → Out β) : (Out.ok a >>= f) = f a := (rfl)
@[simp] theorem bind_exc {α β : Type} (c : Str) (ρ : Rho) (f : α → Out β) : (Out.exc c ρ >>= f) = .exc c ρ := (rfl)
@[simp] theorem bind_stuck {α β : Type} (f : α → Out β) : (Out.stuck >>= f) = .stuck := (rfl)
abbrev Ex := Rho → Out (S × Rho)

def keyD : D → Option Key
  | .int i => some (.inl i)
  | .str x => some (.inr x)
  | _ => none
def keysD : List D → Option (List Key)
  | [] => some []
  | d :: ds => (keyD d).bind fun k => (keysD ds).map (k :: ·)

/-! ### how a heap bears a value -/
/-- a list that never changes -/
def FzL (K : PySem.W.Frag) (H : Hp) (a : Addr) (xs : List V) : Prop := ∃ o, H a = some (.frz o (.lst xs))
theorem FzL.seq {K : PySem.W.Frag} {H : Hp} {a : Addr} {xs : List V} (h : FzL K H a xs) : SqL K H a xs := .inl (.inr h)
/-- a tuple, tracked or of the written part (without a dict) -/
def TpT (K : PySem.W.Frag) (H : Hp) (a : Addr) (xs : List V) : Prop :=
  L2.Rd H a (.tup xs) ∨ ∃ (o : Obj) (its : Array Value) (n : Nat), K.lookup a = some o ∧ o.dict = none ∧ o.cls = .type "tuple" ∧ o.data = .seq its n ∧ its.size ≤ sizeLine ∧ Vals xs its.toList
theorem TpT.of {K : PySem.W.Frag} {H : Hp} {a : Addr} {xs : List V} (h : H a = some (.tup xs)) : TpT K H a xs := .inl (.inl h)
theorem TpT.seq {K : PySem.W.Frag} {H : Hp} {a : Addr} {xs : List V} (h : TpT K H a xs) : SqT K H a xs := by
  rcases h with h | ⟨o, its, n, h1, _, h2⟩
  · exact .inl h
  · exact .inr ⟨o, its, n, h1, h2⟩
/-- the script's own list -/
def ScrL (K : PySem.W.Frag) (H : Hp) (a : Addr) (xs : List V) : Prop :=
  (∃ o, H a = some (.frz o (.lst xs))) ∨
    ∃ (o : Obj) (its : Array Value) (n : Nat), K.lookup a = some o ∧ o.cls = .type "list" ∧ o.dict = none ∧ o.data = .seq its n ∧ its.size ≤ sizeLine ∧ Vals xs its.toList
theorem ScrL.seq {K : PySem.W.Frag} {H : Hp} {a : Addr} {xs : List V} (h : ScrL K H a xs) : SqL K H a xs := by
  rcases h with h | h
  · exact .inl (.inr h)
  · exact .inr h
mutual
def Imm (K : PySem.W.Frag) (H : Hp) : D → V → Prop
  | .non, x => x = .non
  | .bl b, x => x = .bl b
  | .int i, x => x = .int i
  | .str z, x => x = .str z
  | .tup ds, x => ∃ a vs, x = .ref a ∧ TpT K H a vs ∧ ImmL K H ds vs
  | .lst ds, x => ∃ a vs, x = .ref a ∧ FzL K H a vs ∧ ImmL K H ds vs
  | .dic kvs, x => ∃ a o, x = .ref a ∧ ((∃ kws, H a = some (.frz o (.dK kws)) ∧ ImmK K H kvs kws) ∨ ∃ kws, H a = some (.frz o (.dT kws)) ∧ ImmT K H kvs kws)
  | .scr ns, x => ∃ a, x = .ref a ∧ ScrL K H a (ns.map V.int)
def ImmL (K : PySem.W.Frag) (H : Hp) : List D → List V → Prop
  | [], vs => vs = []
  | d :: ds, vs => ∃ v r, vs = v :: r ∧ Imm K H d v ∧ ImmL K H ds r
def ImmK (K : PySem.W.Frag) (H : Hp) : List (D × D) → List (Key × V) → Prop
  | [], vs => vs = []
  | (k, d) :: ds, vs => ∃ kk v r, vs = (kk, v) :: r ∧ keyD k = some kk ∧ Imm K H d v ∧ ImmK K H ds r
def ImmT (K : PySem.W.Frag) (H : Hp) : List (D × D) → List (List Key × V) → Prop
  | [], vs => vs = []
  | (.tup k, d) :: ds, vs => ∃ kk v r, vs = (kk, v) :: r ∧ keysD k = some kk ∧ Imm K H d v ∧ ImmT K H ds r
  | _ :: _, _ => False
end
/-- things that never change stay -/
def Ext (H H' : Hp) : Prop := ∀ a o, H a = some o → (∀ xs, o = .tup xs → H' a = some o) ∧ ∀ ob u, o = .frz ob u → H' a = some o
theorem Ext.refl (H : Hp) : Ext H H := fun _ _ h => ⟨fun _ _ => h, fun _ _ _ => h⟩
theorem Ext.trans {H H1 H2 : Hp} (a : Ext H H1) (b : Ext H1 H2) : Ext H H2 := fun c o h =>
  ⟨fun xs e => (b c o ((a c o h).1 xs e)).1 xs e, fun ob u e => (b c o ((a c o h).2 ob u e)).2 ob u e⟩
theorem Ext.tup {H H' : Hp} (e : Ext H H') {a : Addr} {xs : List V} (h : H a = some (.tup xs)) : H' a = some (.tup xs) := (e a _ h).1 xs rfl
theorem Ext.frz {H H' : Hp} (e : Ext H H') {a : Addr} {o : Obj} {u : HO} (h : H a = some (.frz o u)) : H' a = some (.frz o u) := (e a _ h).2 o u rfl
theorem Ext.of_same {H H' : Hp} (e : Same H H') : Ext H H' := fun a o h => ⟨fun _ _ => e a o h, fun _ _ _ => e a o h⟩
theorem Ext.sqT {K : PySem.W.Frag} {H H' : Hp} (e : Ext H H') {a : Addr} {xs : List V} (h : TpT K H a xs) : TpT K H' a xs := by
  rcases h with (h | ⟨o, h⟩) | h
  · exact .inl (.inl (e.tup h))
  · exact .inl (.inr ⟨o, e.frz h⟩)
  · exact .inr h
theorem Ext.fzL {K : PySem.W.Frag} {H H' : Hp} (e : Ext H H') {a : Addr} {xs : List V} (h : FzL K H a xs) : FzL K H' a xs := by
  obtain ⟨o, h⟩ := h
  exact ⟨o, e.frz h⟩
theorem Ext.scrL {K : PySem.W.Frag} {H H' : Hp} (e : Ext H H') {a : Addr} {xs : List V} (h : ScrL K H a xs) : ScrL K H' a xs := by
  rcases h with ⟨o, h⟩ | h
  · exact .inl ⟨o, e.frz h⟩
  · exact .inr h
mutual
theorem Imm.ext {K : PySem.W.Frag} {H H' : Hp} (e : Ext H H') : ∀ (d : D) (x : V), Imm K H d x → Imm K H' d x
  | .non, _, h => h
  | .bl _, _, h => h
  | .int _, _, h => h
  | .str _, _, h => h
  | .tup ds, _, ⟨a, vs, e1, h1, h2⟩ => ⟨a, vs, e1, e.sqT h1, ImmL.ext e ds vs h2⟩
  | .lst ds, _, ⟨a, vs, e1, h1, h2⟩ => ⟨a, vs, e1, e.fzL h1, ImmL.ext e ds vs h2⟩
  | .dic kvs, _, ⟨a, o, e1, h⟩ => ⟨a, o, e1, h.elim (fun ⟨kws, h1, h2⟩ => .inl ⟨kws, e.frz h1, ImmK.ext e kvs kws h2⟩) fun ⟨kws, h1, h2⟩ => .inr ⟨kws, e.frz h1, ImmT.ext e kvs kws h2⟩⟩
  | .scr ns, _, ⟨a, e1, h⟩ => ⟨a, e1, e.scrL h⟩
theorem ImmL.ext {K : PySem.W.Frag} {H H' : Hp} (e : Ext H H') : ∀ (ds : List D) (vs : List V), ImmL K H ds vs → ImmL K H' ds vs
  | [], _, h => h
  | d :: ds, _, ⟨v, r, e1, h1, h2⟩ => ⟨v, r, e1, Imm.ext e d v h1, ImmL.ext e ds r h2⟩
theorem ImmK.ext {K : PySem.W.Frag} {H H' : Hp} (e : Ext H H') : ∀ (ds : List (D × D)) (vs : List (Key × V)), ImmK K H ds vs → ImmK K H' ds vs
  | [], _, h => h
  | (_, d) :: ds, _, ⟨kk, v, r, e1, h0, h1, h2⟩ => ⟨kk, v, r, e1, h0, Imm.ext e d v h1, ImmK.ext e ds r h2⟩
theorem ImmT.ext {K : PySem.W.Frag} {H H' : Hp} (e : Ext H H') : ∀ (ds : List (D × D)) (vs : List (List Key × V)), ImmT K H ds vs → ImmT K H' ds vs
  | [], _, h => h
  | (.tup _, d) :: ds, _, ⟨kk, v, r, e1, h0, h1, h2⟩ => ⟨kk, v, r, e1, h0, Imm.ext e d v h1, ImmT.ext e ds r h2⟩
  | (.non, _) :: _, _, h => h
  | (.bl _, _) :: _, _, h => h
  | (.int _, _) :: _, _, h => h
  | (.str _, _) :: _, _, h => h
  | (.lst _, _) :: _, _, h => h
  | (.dic _, _) :: _, _, h => h
  | (.scr _, _) :: _, _, h => h
end
theorem ImmL.len {K : PySem.W.Frag} {H : Hp} : ∀ {ds : List D} {vs : List V}, ImmL K H ds vs → vs.length = ds.length
  | [], _, h => by cases (show _ = _ from h); rfl
  | d :: ds, _, ⟨v, r, e1, h1, h2⟩ => by rw [e1, List.length_cons, List.length_cons, ImmL.len h2]
theorem ImmL.get {K : PySem.W.Frag} {H : Hp} : ∀ {ds : List D} {vs : List V} {i : Nat} {x : V}, ImmL K H ds vs → vs[i]? = some x → ∃ d, ds[i]? = some d ∧ Imm K H d x
  | [], _, _, _, h, e => by cases (show _ = _ from h); simp at e
  | d :: ds, _, 0, x, ⟨v, r, e1, h1, h2⟩, e => by subst e1; simp at e; subst e; exact ⟨d, rfl, h1⟩
  | d :: ds, _, i + 1, x, ⟨v, r, e1, h1, h2⟩, e => by
    subst e1
    obtain ⟨d', h3, h4⟩ := ImmL.get (i := i) (x := x) h2 (by simpa using e)
    exact ⟨d', by simpa using h3, h4⟩
theorem ImmL.get' {K : PySem.W.Frag} {H : Hp} : ∀ {ds : List D} {vs : List V} {i : Nat} {d : D}, ImmL K H ds vs → ds[i]? = some d → ∃ x, vs[i]? = some x ∧ Imm K H d x
  | [], _, _, _, h, e => by simp at e
  | d :: ds, _, 0, x, ⟨v, r, e1, h1, h2⟩, e => by subst e1; simp at e; subst e; exact ⟨v, rfl, h1⟩
  | d :: ds, _, i + 1, x, ⟨v, r, e1, h1, h2⟩, e => by
    subst e1
    obtain ⟨d', h3, h4⟩ := ImmL.get' (i := i) (d := x) h2 (by simpa using e)
    exact ⟨d', by simpa using h3, h4⟩
theorem ImmL.append {K : PySem.W.Frag} {H : Hp} : ∀ {ds es : List D} {vs ws : List V}, ImmL K H ds vs → ImmL K H es ws → ImmL K H (ds ++ es) (vs ++ ws)
  | [], _, _, _, h, h' => by cases (show _ = _ from h); exact h'
  | d :: ds, _, _, _, ⟨v, r, e1, h1, h2⟩, h' => by subst e1; exact ⟨v, _, rfl, h1, ImmL.append h2 h'⟩
theorem ImmL.snoc {K : PySem.W.Frag} {H : Hp} {ds : List D} {vs : List V} {d : D} {v : V} (h : ImmL K H ds vs) (h' : Imm K H d v) : ImmL K H (ds ++ [d]) (vs ++ [v]) := h.append ⟨v, [], rfl, h', rfl⟩
theorem ImmL.drop {K : PySem.W.Frag} {H : Hp} : ∀ {ds : List D} {vs : List V} (n : Nat), ImmL K H ds vs → ImmL K H (ds.drop n) (vs.drop n)
  | _, _, 0, h => h
  | [], _, n + 1, h => by cases (show _ = _ from h); rfl
  | d :: ds, _, n + 1, ⟨v, r, e1, h1, h2⟩ => by subst e1; exact ImmL.drop n h2
theorem ImmL.take {K : PySem.W.Frag} {H : Hp} : ∀ {ds : List D} {vs : List V} (n : Nat), ImmL K H ds vs → ImmL K H (ds.take n) (vs.take n)
  | _, _, 0, h => rfl
  | [], _, n + 1, h => by cases (show _ = _ from h); rfl
  | d :: ds, _, n + 1, ⟨v, r, e1, h1, h2⟩ => by subst e1; exact ⟨v, _, rfl, h1, ImmL.take n h2⟩
theorem ImmL.set {K : PySem.W.Frag} {H : Hp} : ∀ {ds : List D} {vs : List V} (n : Nat) {d : D} {v : V}, ImmL K H ds vs → Imm K H d v → ImmL K H (ds.set n d) (vs.set n v)
  | [], _, n, _, _, h, _ => by cases (show _ = _ from h); rfl
  | d :: ds, _, 0, _, _, ⟨v, r, e1, h1, h2⟩, h' => by subst e1; exact ⟨_, _, rfl, h', h2⟩
  | d :: ds, _, n + 1, _, _, ⟨v, r, e1, h1, h2⟩, h' => by subst e1; exact ⟨v, _, rfl, h1, ImmL.set n h2 h'⟩
theorem ImmL.erase {K : PySem.W.Frag} {H : Hp} : ∀ {ds : List D} {vs : List V} (n : Nat), ImmL K H ds vs → ImmL K H (ds.eraseIdx n) (vs.eraseIdx n)
  | [], _, n, h => by cases (show _ = _ from h); rfl
  | d :: ds, _, 0, ⟨v, r, e1, h1, h2⟩ => by subst e1; exact h2
  | d :: ds, _, n + 1, ⟨v, r, e1, h1, h2⟩ => by subst e1; exact ⟨v, _, rfl, h1, ImmL.erase n h2⟩
theorem ImmL.reverse {K : PySem.W.Frag} {H : Hp} : ∀ {ds : List D} {vs : List V}, ImmL K H ds vs → ImmL K H ds.reverse vs.reverse
  | [], _, h => by cases (show _ = _ from h); rfl
  | d :: ds, _, ⟨v, r, e1, h1, h2⟩ => by subst e1; rw [List.reverse_cons, List.reverse_cons]; exact (ImmL.reverse h2).snoc h1
theorem ImmL.none_iff {K : PySem.W.Frag} {H : Hp} {ds : List D} {vs : List V} (h : ImmL K H ds vs) : vs = [] ↔ ds = [] := by
  have := h.len
  constructor
  · intro e; subst e; exact List.length_eq_zero_iff.mp this.symm
  · intro e; subst e; exact List.length_eq_zero_iff.mp this

/-- an own object at a -/
def OwnAt (K : PySem.W.Frag) (H : Hp) (a : Addr) : D → Prop
  | .lst ds => ∃ vs, H a = some (.lst vs) ∧ ImmL K H ds vs
  | .dic kvs => (∃ kws, H a = some (.dK kws) ∧ ImmK K H kvs kws) ∨ ∃ kws, H a = some (.dT kws) ∧ ImmT K H kvs kws
  | _ => False
theorem OwnAt.some {K : PySem.W.Frag} {H : Hp} {a : Addr} : ∀ {d : D}, OwnAt K H a d → ∃ u, H a = some u ∧ Mut (some u)
  | .lst ds, ⟨vs, h, _⟩ => ⟨_, h, True.intro⟩
  | .dic kvs, h => h.elim (fun ⟨_, h, _⟩ => ⟨_, h, True.intro⟩) fun ⟨_, h, _⟩ => ⟨_, h, True.intro⟩
/-- what can be read as d -/
def Rd (K : PySem.W.Frag) (H : Hp) (d : D) (x : V) : Prop := Imm K H d x ∨ ∃ a, x = .ref a ∧ OwnAt K H a d
theorem Rd.lst {K : PySem.W.Frag} {H : Hp} {ds : List D} {x : V} (h : Rd K H (.lst ds) x) : ∃ a vs, x = .ref a ∧ SqL K H a vs ∧ ImmL K H ds vs := by
  rcases h with ⟨a, vs, e, h1, h2⟩ | ⟨a, e, vs, h1, h2⟩
  · exact ⟨a, vs, e, h1.seq, h2⟩
  · exact ⟨a, vs, e, SqL.of h1, h2⟩
theorem Rd.tup {K : PySem.W.Frag} {H : Hp} {ds : List D} {x : V} (h : Rd K H (.tup ds) x) : ∃ a vs, x = .ref a ∧ TpT K H a vs ∧ ImmL K H ds vs := by
  rcases h with h | ⟨a, e, h⟩
  · exact h
  · exact h.elim
theorem Rd.int {K : PySem.W.Frag} {H : Hp} {i : Int} {x : V} (h : Rd K H (.int i) x) : x = .int i := by
  rcases h with h | ⟨a, e, h⟩
  · exact h
  · exact h.elim
theorem Rd.str {K : PySem.W.Frag} {H : Hp} {i : Str} {x : V} (h : Rd K H (.str i) x) : x = .str i := by
  rcases h with h | ⟨a, e, h⟩
  · exact h
  · exact h.elim
theorem Rd.bl {K : PySem.W.Frag} {H : Hp} {i : Bool} {x : V} (h : Rd K H (.bl i) x) : x = .bl i := by
  rcases h with h | ⟨a, e, h⟩
  · exact h
  · exact h.elim
theorem Rd.non {K : PySem.W.Frag} {H : Hp} {x : V} (h : Rd K H .non x) : x = .non := by
  rcases h with h | ⟨a, e, h⟩
  · exact h
  · exact h.elim

theorem Rd.scr {K : PySem.W.Frag} {H : Hp} {ns : List Int} {x : V} (h : Rd K H (.scr ns) x) : ∃ a, x = .ref a ∧ SqL K H a (ns.map V.int) := by
  rcases h with ⟨a, e, h⟩ | ⟨a, e, h⟩
  · exact ⟨a, e, h.seq⟩
  · exact h.elim
/-- a list that is tracked, or locked -/
theorem Rd.lstR {K : PySem.W.Frag} {H : Hp} {ds : List D} {x : V} (h : Rd K H (.lst ds) x) : ∃ a vs, x = .ref a ∧ L2.Rd H a (.lst vs) ∧ ImmL K H ds vs := by
  rcases h with ⟨a, vs, e, h1, h2⟩ | ⟨a, e, vs, h1, h2⟩
  · exact ⟨a, vs, e, .inr h1, h2⟩
  · exact ⟨a, vs, e, .inl h1, h2⟩
/-! ### the configuration, the state -/
structure Cf where
  prog : Program
  w : World
  K : PySem.W.Frag
  mg : Str → Option Value
  base : Heap
  N : List Str
  sc : Scope
  fn : Str → Bool
  k : Nat
  H0 : Hp
  io : List (Nat × Addr)
def Cf.ios (g : Cf) : List Nat := g.io.map (·.1)
structure At (g : Cf) (X : Cx) : Prop where
  prog : X.prog = g.prog
  w : X.w = g.w
  K : X.K = g.K
  mg : X.mg = g.mg
  base : X.base = g.base
  N : X.N = g.N
  sc : X.env.scope = g.sc
  fn : ∀ x, g.fn x = true → X.fn x = true
  room : Room g.k X.A
  calm : X.calm = true
def Own (ρ : Rho) (σ : L2.St) (a : Addr) : Prop := ∃ (i : Nat) (d : D), ρ[i]? = some (some (.o d)) ∧ σ[i]? = some (some (.ref a))
structure ER (K : PySem.W.Frag) (g : Cf) (ρ : Rho) (σ : L2.St) (H : Hp) : Prop where
  len : ρ.length = σ.length
  val : ∀ (i : Nat) (d : D), ρ[i]? = some (some (.v d)) → ∃ x, σ[i]? = some (some x) ∧ Imm K H d x
  own : ∀ (i : Nat) (d : D), ρ[i]? = some (some (.o d)) → ∃ a, σ[i]? = some (some (.ref a)) ∧ OwnAt K H a d
  bor : ∀ i j : Nat, ρ[i]? ≠ some (some (.b j))
  sep : ∀ (i j : Nat) (d d' : D) (a : Addr), ρ[i]? = some (some (.o d)) → ρ[j]? = some (some (.o d')) → σ[i]? = some (some (.ref a)) → σ[j]? = some (some (.ref a)) → i = j
  old : ∀ a o, g.H0 a = some o → (∀ p ∈ g.io, p.2 ≠ a) → H a = some o
  new : ∀ (i : Nat) (d : D) (a : Addr), ρ[i]? = some (some (.o d)) → σ[i]? = some (some (.ref a)) → g.H0 a = none ∨ (i, a) ∈ g.io
  io : ∀ p ∈ g.io, σ[p.1]? = some (some (.ref p.2)) ∧ ∃ d, ρ[p.1]? = some (some (.o d))
theorem OwnAt.same {K : PySem.W.Frag} {H H' : Hp} (e : Same H H') {a : Addr} : ∀ {d : D}, OwnAt K H a d → OwnAt K H' a d
  | .lst ds, ⟨vs, h, h2⟩ => ⟨vs, e _ _ h, ImmL.ext (Ext.of_same e) ds vs h2⟩
  | .dic kvs, h => h.elim (fun ⟨kws, h, h2⟩ => .inl ⟨kws, e _ _ h, ImmK.ext (Ext.of_same e) kvs kws h2⟩) fun ⟨kws, h, h2⟩ => .inr ⟨kws, e _ _ h, ImmT.ext (Ext.of_same e) kvs kws h2⟩
theorem OwnAt.ext {K : PySem.W.Frag} {H H' : Hp} (e : Ext H H') {a : Addr} (h' : H' a = H a) : ∀ {d : D}, OwnAt K H a d → OwnAt K H' a d
  | .lst ds, ⟨vs, h, h2⟩ => ⟨vs, h'.trans h, ImmL.ext e ds vs h2⟩
  | .dic kvs, h => h.elim (fun ⟨kws, h, h2⟩ => .inl ⟨kws, h'.trans h, ImmK.ext e kvs kws h2⟩) fun ⟨kws, h, h2⟩ => .inr ⟨kws, h'.trans h, ImmT.ext e kvs kws h2⟩
theorem ER.same {K : PySem.W.Frag} {g : Cf} {ρ : Rho} {σ : L2.St} {H H' : Hp} (R : ER K g ρ σ H) (e : Same H H') : ER K g ρ σ H' where
  len := R.len
  val := fun i d h => let ⟨x, h1, h2⟩ := R.val i d h; ⟨x, h1, Imm.ext (Ext.of_same e) d x h2⟩
  own := fun i d h => let ⟨x, h1, h2⟩ := R.own i d h; ⟨x, h1, h2.same e⟩
  bor := R.bor
  sep := R.sep
  old := fun a o h q => e a o (R.old a o h q)
  new := R.new
  io := R.io
/-- everything but the address a is kept, which is none of the own ones -/
theorem ER.but {K : PySem.W.Frag} {g : Cf} {ρ : Rho} {σ : L2.St} {H H' : Hp} {a : Addr} (R : ER K g ρ σ H) (x : Ext H H') (e : ∀ b o, b ≠ a → H b = some o → H' b = some o) (na : ¬ Own ρ σ a) (h0 : g.H0 a = none) : ER K g ρ σ H' where
  len := R.len
  val := fun i d h => let ⟨y, h1, h2⟩ := R.val i d h; ⟨y, h1, Imm.ext x d y h2⟩
  own := fun i d h => by
    obtain ⟨y, h1, h2⟩ := R.own i d h
    have hy : y ≠ a := fun z => na ⟨i, d, h, z ▸ h1⟩
    obtain ⟨u, hu, _⟩ := h2.some
    exact ⟨y, h1, h2.ext x ((e y u hy hu).trans hu.symm)⟩
  bor := R.bor
  sep := R.sep
  old := fun b o h q => e b o (fun z => by rw [z, h0] at h; cases h) (R.old b o h q)
  new := R.new
  io := R.io
/-- an expression's value -/
def SR (K : PySem.W.Frag) (g : Cf) (ρ : Rho) (σ : L2.St) (H : Hp) : S → V → Prop
  | .v d, x => Imm K H d x
  | .o d, x => ∃ a, x = .ref a ∧ OwnAt K H a d ∧ ¬ Own ρ σ a ∧ g.H0 a = none
  | .b i, x => σ[i]? = some (some x) ∧ ∃ d, ρ[i]? = some (some (.o d))
/-- .. where a new object is locked -/
def NR (K : PySem.W.Frag) (σ : L2.St) (H : Hp) : S → V → Prop
  | .v d, x => Imm K H d x
  | .o d, x => Imm K H d x
  | .b i, x => σ[i]? = some (some x)
def pk (ρ : Rho) : S → Out D
  | .v d => .ok d
  | .o d => .ok d
  | .b i => match ρ[i]? with
    | some (some (.o d)) => .ok d
    | some (some (.v d)) => .ok d
    | _ => .stuck
/-- the value, to be shared from now on -/
def fz (g : List Nat) (s : S) (ρ : Rho) : Out (D × Rho) := match s with
  | .v d => .ok (d, ρ)
  | .o d => .ok (d, ρ)
  | .b i => if i ∈ g then .stuck else match ρ[i]? with
    | some (some (.o d)) => .ok (d, ρ.set i (some (.v d)))
    | some (some (.v d)) => .ok (d, ρ)
    | _ => .stuck
theorem pk_rd {K : PySem.W.Frag} {g : Cf} {ρ' : Rho} {σ : L2.St} {H H' : Hp} {s : S} {x : V} {d : D} (n : NR K σ H s x) (R : ER K g ρ' σ H') (e : Ext H H') (h : pk ρ' s = .ok d) : Rd K H' d x := by
  cases s with
  | v d' => cases h; exact .inl (Imm.ext e _ _ n)
  | o d' => cases h; exact .inl (Imm.ext e _ _ n)
  | b i =>
    have n1 : σ[i]? = some (some x) := n
    cases hs : ρ'[i]? with
    | none => simp only [pk, hs] at h; cases h
    | some o =>
      cases o with
      | none => simp only [pk, hs] at h; cases h
      | some z =>
        cases z with
        | b j => simp only [pk, hs] at h; cases h
        | o d' =>
          simp only [pk, hs] at h
          cases h
          obtain ⟨a, h1, h2⟩ := R.own i _ hs
          rw [n1] at h1; cases h1
          exact .inr ⟨a, rfl, h2⟩
        | v d' =>
          simp only [pk, hs] at h
          cases h
          obtain ⟨y, h1, h2⟩ := R.val i _ hs
          rw [n1] at h1; cases h1
          exact .inl h2

/-! ### the judgement of an expression -/
/-- what is wanted behind a reckoning -/
def Pst (K : PySem.W.Frag) (g : Cf) (σ : L2.St) (H : Hp) (W : WX) {β : Type} (G : β → Hp → Prop) : Out β → Prop
  | .ok b => ∀ H', Ext H H' → G b H'
  | .exc c ρ' => ∀ cls H', ER K g ρ' σ H' → Ext H H' → g.mg c = some cls → W cls none σ H'
  | .stuck => False
section
variable {K : PySem.W.Frag} {g : Cf} {σ : L2.St} {H H1 : Hp} {W : WX} {α β : Type} {G : β → Hp → Prop}
theorem Pst.ext (e : Ext H H1) : ∀ {r : Out β}, Pst K g σ H W G r → Pst K g σ H1 W G r
  | .ok _, q => fun H' x => q H' (e.trans x)
  | .exc _ _, q => fun cls H' R x m => q cls H' R (e.trans x) m
  | .stuck, q => q
theorem pk_noexc {ρ ρ' : Rho} {s : S} {c : Str} (h : pk ρ s = .exc c ρ') : False := by
  cases s with
  | v d => cases h
  | o d => cases h
  | b i =>
    simp only [pk] at h
    split at h <;> cases h
theorem Pst.pk {ρ : Rho} {s : S} {k : D → Out β} (q : Pst K g σ H W G (PL.pk ρ s >>= k)) : ∃ d, PL.pk ρ s = .ok d ∧ Pst K g σ H W G (k d) := by
  cases h : PL.pk ρ s with
  | stuck => rw [h] at q; exact q.elim
  | exc c ρ' => exact (pk_noexc h).elim
  | ok d => rw [h] at q; exact ⟨d, rfl, q⟩
def liftO : Option α → Out α
  | some a => .ok a
  | none => .stuck
@[simp] theorem liftO_some (a : α) : liftO (some a) = .ok a := (rfl)
@[simp] theorem liftO_none : liftO (none : Option α) = .stuck := (rfl)
theorem Pst.opt {o : Option α} {k : α → Out β} (q : Pst K g σ H W G (liftO o >>= k)) : ∃ a, o = some a ∧ Pst K g σ H W G (k a) := by
  cases o with
  | none => exact q.elim
  | some a => exact ⟨a, rfl, q⟩
end
def tE (K : PySem.W.Frag) (g : Cf) (f : Ex) (W : WX) : TE := fun σ H Q => ∃ ρ, ER K g ρ σ H ∧ Pst K g σ H W (fun p H' => ER K g p.2 σ H' → ∀ x, SR K g p.2 σ H' p.1 x → Q x H') (f ρ)
def EOk (g : Cf) (e : Expr) (f : Ex) : Prop := ∀ (X : Cx) (W : WX), At g X → Takes X W → PE X e (tE X.K g f W)
def tN (K : PySem.W.Frag) (g : Cf) (f : Ex) (W : WX) : TE := fun σ H Q => ∃ ρ, ER K g ρ σ H ∧ Pst K g σ H W (fun p H' => ER K g p.2 σ H' → ∀ x, NR K σ H' p.1 x → Q x H') (f ρ)
theorem PE.imp {X : Cx} {e : Expr} {t t' : TE} (h : PE X e t) (hi : ∀ σ H Q, t' σ H Q → t σ H Q) : PE X e t' := ⟨fun pins s σ H Q I q => h.run pins s σ H Q I (hi σ H Q q)⟩
theorem PT.imp {X : Cx} {e : Expr} {t t' : TT} (h : PT X e t) (hi : ∀ σ H Q, t' σ H Q → t σ H Q) : PT X e t' := ⟨fun pins s σ H Q I q => h.run pins s σ H Q I (hi σ H Q q)⟩
theorem PS.imp {X : Cx} {e : Stmt} {t t' : TS} (h : PS X e t) (hi : ∀ D σ H, t' D σ H → t D σ H) : PS X e t' := ⟨fun pins s σ H D I q => h.run pins s σ H D I (hi D σ H q)⟩
theorem PSs.imp {X : Cx} {e : List Stmt} {t t' : TS} (h : PSs X e t) (hi : ∀ D σ H, t' D σ H → t D σ H) : PSs X e t' := ⟨fun pins s σ H D I q => h.run pins s σ H D I (hi D σ H q)⟩
theorem PA.imp {X : Cx} {e : List Expr} {t t' : TA} (h : PA X e t) (hi : ∀ σ H Q, t' σ H Q → t σ H Q) : PA X e t' := ⟨fun pos pins s σ H Q I q => h.run pos pins s σ H Q I (hi σ H Q q)⟩
theorem PI.imp {X : Cx} {tg e : Expr} {t t' : TI} (h : PI X tg e t) (hi : ∀ σ H Q, t' σ H Q → t σ H Q) : PI X tg e t' := ⟨fun pins s σ H Q I q => h.run pins s σ H Q I (hi σ H Q q)⟩

/-- the lock of an own object that no slot holds -/
theorem lock_tmp {K : PySem.W.Frag} {g : Cf} {ρ : Rho} {σ : L2.St} {H : Hp} {a : Addr} {d : D} (R : ER K g ρ σ H) (o : OwnAt K H a d) (no : ¬ Own ρ σ a) (h0 : g.H0 a = none) :
    ∃ u, H a = some u ∧ Mut (some u) ∧ ∀ od, ER K g ρ σ (upd H a (.frz od u)) ∧ Ext H (upd H a (.frz od u)) ∧ Imm K (upd H a (.frz od u)) d (.ref a) := by
  obtain ⟨u, hu, mu⟩ := o.some
  refine ⟨u, hu, mu, fun od => ?_⟩
  have x : Ext H (upd H a (.frz od u)) := fun b ob hb => by
    by_cases hba : b = a
    · subst hba
      rw [hu] at hb; cases hb
      exact ⟨fun xs e => by subst e; exact mu.elim, fun _ _ e => by subst e; exact mu.elim⟩
    · exact ⟨fun _ _ => by rw [upd_ne hba]; exact hb, fun _ _ _ => by rw [upd_ne hba]; exact hb⟩
  refine ⟨R.but (a := a) x (fun b ob hb hh => by rw [upd_ne hb]; exact hh) no h0, x, ?_⟩
  cases d with
  | lst ds =>
    obtain ⟨vs, h1, h2⟩ := o
    rw [hu] at h1; cases h1
    exact ⟨a, vs, rfl, ⟨od, upd_same⟩, ImmL.ext x ds vs h2⟩
  | dic kvs =>
    rcases o with ⟨kws, h1, h2⟩ | ⟨kws, h1, h2⟩
    · rw [hu] at h1; cases h1
      exact ⟨a, od, rfl, .inl ⟨kws, upd_same, ImmK.ext x kvs kws h2⟩⟩
    · rw [hu] at h1; cases h1
      exact ⟨a, od, rfl, .inr ⟨kws, upd_same, ImmT.ext x kvs kws h2⟩⟩
  | _ => exact o.elim
/-- an expression, a new object of it locked -/
theorem EOk.n {g : Cf} {e : Expr} {f : Ex} (h : EOk g e f) {X : Cx} {W : WX} (A : At g X) (tk : Takes X W) : PE X e (tN X.K g f W) := by
  refine ⟨fun pins s σ H Q I ⟨ρ, R, q⟩ => ?_⟩
  cases hf : f ρ with
  | stuck => rw [hf] at q; exact q.elim
  | exc c ρ' =>
    rw [hf] at q
    exact (h X W A tk).run pins s σ H Q I ⟨ρ, R, by rw [hf]; exact q⟩
  | ok p =>
    obtain ⟨s', ρ'⟩ := p
    rw [hf] at q
    have q : ∀ H', Ext H H' → ER X.K g ρ' σ H' → ∀ x, NR X.K σ H' s' x → Q x H' := q
    refine thn ((h X W A tk).run pins s σ H (fun x H' => ER X.K g ρ' σ H' ∧ Ext H H' ∧ SR X.K g ρ' σ H' s' x) I ⟨ρ, R, by rw [hf]; exact fun H' b a x c => ⟨a, b, c⟩⟩) fun u s1 ⟨x, H1, I1, r1, R1, e1, sr⟩ => ?_
    cases s' with
    | v d => exact ⟨x, H1, I1, r1, q H1 e1 R1 x sr⟩
    | b i => exact ⟨x, H1, I1, r1, q H1 e1 R1 x sr.1⟩
    | o d =>
      obtain ⟨a, rfl, oa, no, h0⟩ := sr
      obtain ⟨u', hu, mu, F⟩ := lock_tmp R1 oa no h0
      obtain ⟨od, I2⟩ := I1.lock hu mu
      obtain ⟨R2, e2, im⟩ := F od
      exact ⟨_, _, I2, r1, q _ (e1.trans e2) R2 _ im⟩
/-- a reckoning that begins with an expression -/
theorem tN_step {K : PySem.W.Frag} {g : Cf} {σ : L2.St} {H : Hp} {W : WX} {β : Type} {G : β → Hp → Prop} {ρ : Rho} {fa : Ex} {k : S × Rho → Out β} {Q : VK} (R : ER K g ρ σ H) (q : Pst K g σ H W G (fa ρ >>= k))
    (h : ∀ s ρ1 x H1, ER K g ρ1 σ H1 → Ext H H1 → NR K σ H1 s x → Pst K g σ H1 W G (k (s, ρ1)) → Q x H1) : tN K g fa W σ H Q := by
  refine ⟨ρ, R, ?_⟩
  cases ha : fa ρ with
  | stuck => rw [ha] at q; exact q.elim
  | exc c ρ1 => rw [ha] at q; exact q
  | ok p =>
    rw [ha] at q
    exact fun H1 E1 R1 x n => h p.1 p.2 x H1 R1 E1 n (Pst.ext E1 (r := k p) q)
end PL

namespace PL
open PySem PySem.Spec PyProof.Rows L2

section
variable {g : Cf} {e a b c : Expr} {pos : Pos}
/-! ### names, constants -/
def eVar (i : Nat) : Ex := fun ρ => match ρ[i]? with
  | some (some (.v d)) => .ok (.v d, ρ)
  | some (some (.o _)) => .ok (.b i, ρ)
  | _ => .stuck
def eC (d : D) : Ex := fun ρ => .ok (.v d, ρ)
theorem e_var {i : Nat} {x : Str} (hN : g.N[i]? = some x := by rfl) (hv : Vis g.sc x := by first | exact Or.inl rfl | exact Or.inr (Or.inl rfl) | exact Or.inr (Or.inr rfl)) (hd : (x == ("__debug__" : Str)) = false := by decide) (hcd : (x == ("__classdict__" : Str)) = false := by decide) : EOk g (.Name x pos) (eVar i) := fun X W A tk => by
  refine PE.imp (pe_var (i := i) (by rw [A.N]; exact hN) (by unfold Vis; rw [A.sc]; exact hv) hd hcd) fun σ H Q ⟨ρ, R, q⟩ => ?_
  unfold eVar at q
  cases hs : ρ[i]? with
  | none => rw [hs] at q; exact q.elim
  | some o =>
    cases o with
    | none => rw [hs] at q; exact q.elim
    | some s =>
      cases s with
      | v d =>
        rw [hs] at q
        obtain ⟨x, h1, h2⟩ := R.val i d hs
        exact ⟨x, h1, q H (Ext.refl H) R x h2⟩
      | o d =>
        rw [hs] at q
        obtain ⟨x, h1, h2⟩ := R.own i d hs
        exact ⟨_, h1, q H (Ext.refl H) R _ ⟨h1, d, hs⟩⟩
      | b j => exact absurd hs (R.bor i j)
theorem e_c {X : Cx} {W : WX} {d : D} {x : V} (h : PE X e (tC x)) (hi : ∀ H, Imm X.K H d x) : PE X e (tE X.K g (eC d) W) := PE.imp h fun σ H Q ⟨ρ, R, q⟩ => q H (Ext.refl H) R x (hi H)
theorem e_int {i : Int} {j : Nat} : EOk g (.Constant (.int i) j pos) (eC (.int i)) := fun X W A tk => e_c pe_int fun _ => rfl
theorem e_bl {i : Bool} {j : Nat} : EOk g (.Constant (.bool i) j pos) (eC (.bl i)) := fun X W A tk => e_c pe_bl fun _ => rfl
theorem e_str {i : Str} {j : Nat} : EOk g (.Constant (.str i) j pos) (eC (.str i)) := fun X W A tk => e_c pe_str fun _ => rfl
theorem e_non {j : Nat} : EOk g (.Constant .none j pos) (eC .non) := fun X W A tk => e_c pe_non fun _ => rfl
/-- a name of the module -/
def Glo (g : Cf) (x : Str) : Prop := g.sc.names.lookup x = some .globalImplicit
theorem Glo.gl {x : Str} {X : Cx} (h : Glo g x) (A : At g X) : Gl X x := by
  show X.env.scope.names.lookup x = _
  rw [A.sc]; exact h
/-- a constant of the module -/
structure Con (g : Cf) (x : Str) (d : D) : Prop where
  ex : ∃ u v, g.mg x = some u ∧ RelV v u ∧ ∀ H, Imm g.K H d v
theorem e_glob {x : Str} {d : D} (h : Con g x d) (hg : Glo g x := by rfl) (hd : (x == ("__debug__" : Str)) = false := by decide) : EOk g (.Name x pos) (eC d) := fun X W A tk => by
  obtain ⟨u, v, h1, h2, h3⟩ := h.ex
  exact e_c (pe_glob (hg.gl A) (by rw [A.mg]; exact h1) h2 hd) fun H => by rw [A.K]; exact h3 H

/-! ### operators by values -/
/-- a result: an immutable value, or a new object -/
def RS (K : PySem.W.Frag) (H H' : Hp) : S → V → Prop
  | .v d, z => Imm K H' d z
  | .o d, z => ∃ a, z = .ref a ∧ H a = none ∧ OwnAt K H' a d
  | .b _, _ => False
theorem not_own {K : PySem.W.Frag} {ρ : Rho} {σ : L2.St} {H : Hp} {a : Addr} (R : ER K g ρ σ H) (h : H a = none) : ¬ Own ρ σ a := fun ⟨i, d, h1, h2⟩ => by
  obtain ⟨a', h3, h4⟩ := R.own i d h1
  rw [h2] at h3; cases h3
  obtain ⟨u, hu, _⟩ := h4.some
  rw [h] at hu; cases hu
theorem not_old {K : PySem.W.Frag} {ρ : Rho} {σ : L2.St} {H : Hp} {a : Addr} (R : ER K g ρ σ H) (h : H a = none) : g.H0 a = none := by
  cases q : g.H0 a with
  | none => rfl
  | some o =>
    by_cases hp : ∀ p ∈ g.io, p.2 ≠ a
    · rw [R.old a o q hp] at h; cases h
    · exfalso
      apply hp
      intro p hp' e
      obtain ⟨h1, d, h2⟩ := R.io p hp'
      obtain ⟨a', h3, h4⟩ := R.own _ _ h2
      rw [h1] at h3; cases h3
      obtain ⟨u, hu, _⟩ := h4.some
      rw [e, h] at hu; cases hu
theorem RS.sr {K : PySem.W.Frag} {ρ : Rho} {σ : L2.St} {H H' : Hp} {s : S} {z : V} (R : ER K g ρ σ H) (r : RS K H H' s z) : SR K g ρ σ H' s z := by
  cases s with
  | v d => exact r
  | o d => obtain ⟨a, e, h, o⟩ := r; exact ⟨a, e, o, not_own R h, not_old R h⟩
  | b i => exact r.elim
def Op2 (X : Cx) (f : Value → Value → Sem Value) (od : D → D → Option S) : Prop :=
  ∃ r : R2, OpR X f r ∧ ∀ (x y : V) (H : Hp) (Q : VK) (d1 d2 : D) (s : S), Rd X.K H d1 x → Rd X.K H d2 y → od d1 d2 = some s → (∀ z H', Same H H' → RS X.K H H' s z → Q z H') → r x y H Q
def e2 (od : D → D → Option S) (fa fb : Ex) : Ex := fun ρ => fa ρ >>= fun p => fb p.2 >>= fun q => pk q.2 p.1 >>= fun d1 => pk q.2 q.1 >>= fun d2 => liftO (od d1 d2) >>= fun s => .ok (s, q.2)
theorem read2 {X : Cx} {W : WX} {r : R2} {od : D → D → Option S} {fa fb : Ex} {σ : L2.St} {H : Hp} {Q : VK}
    (h : ∀ (x y : V) (H : Hp) (Q : VK) (d1 d2 : D) (s : S), Rd X.K H d1 x → Rd X.K H d2 y → od d1 d2 = some s → (∀ z H', Same H H' → RS X.K H H' s z → Q z H') → r x y H Q)
    (t : tE X.K g (e2 od fa fb) W σ H Q) : tN X.K g fa W σ H fun x H1 => tN X.K g fb W σ H1 fun y H2 => r x y H2 Q := by
  obtain ⟨ρ, R, q⟩ := t
  refine tN_step R q fun s1 ρ1 x H1 R1 E1 n1 q1 => tN_step R1 q1 fun s2 ρ2 y H2 R2 E2 n2 q2 => ?_
  obtain ⟨d1, h1, q3⟩ := q2.pk
  obtain ⟨d2, h2, q4⟩ := q3.pk
  obtain ⟨s, ho, q5⟩ := q4.opt
  exact h x y H2 Q d1 d2 s (pk_rd n1 R2 E2 h1) (pk_rd n2 R2 (Ext.refl _) h2) ho fun z H' sm rs => q5 H' (Ext.of_same sm) (R2.same sm) z (rs.sr R2)
theorem e_bin {op : Operator} {od : D → D → Option S} {fa fb : Ex} (ho : ∀ X, At g X → Op2 X (binaryOp op) od) (ha : EOk g a fa) (hb : EOk g b fb) : EOk g (.BinOp a op b pos) (e2 od fa fb) := fun X W A tk => by
  obtain ⟨r, hr, h⟩ := ho X A
  exact PE.imp (pe_op hr (ha.n A tk) (hb.n A tk)) fun σ H Q t => read2 h t
end
end PL

namespace PL
open PySem PySem.Spec PyProof.Rows L2
section
variable {g : Cf} {e a b c : Expr} {es rest : List Expr} {pos : Pos}
/-! ### one value -/
def Un1 (X : Cx) (r : V → Hp → VK → Prop) (od : D → Option S) : Prop := ∀ (x : V) (H : Hp) (Q : VK) (d1 : D) (s : S), Rd X.K H d1 x → od d1 = some s → (∀ z H', Same H H' → RS X.K H H' s z → Q z H') → r x H Q
def e1 (od : D → Option S) (fa : Ex) : Ex := fun ρ => fa ρ >>= fun p => pk p.2 p.1 >>= fun d1 => liftO (od d1) >>= fun s => .ok (s, p.2)
theorem read1 {X : Cx} {W : WX} {r : V → Hp → VK → Prop} {od : D → Option S} {fa : Ex} {σ : L2.St} {H : Hp} {Q : VK} (h : Un1 X r od)
    (t : tE X.K g (e1 od fa) W σ H Q) : tN X.K g fa W σ H fun x H1 => r x H1 Q := by
  obtain ⟨ρ, R, q⟩ := t
  refine tN_step R q fun s1 ρ1 x H1 R1 E1 n1 q1 => ?_
  obtain ⟨d1, h1, q3⟩ := q1.pk
  obtain ⟨s, ho, q5⟩ := q3.opt
  exact h x H1 Q d1 s (pk_rd n1 R1 (Ext.refl _) h1) ho fun z H' sm rs => q5 H' (Ext.of_same sm) (R1.same sm) z (rs.sr R1)
theorem e_un {op : UnaryOp} {od : D → Option S} {fa : Ex} (ho : ∀ X, At g X → ∃ r, UnR X (unaryOp op) r ∧ Un1 X r od) (ha : EOk g a fa) : EOk g (.UnaryOp op a pos) (e1 od fa) := fun X W A tk => by
  obtain ⟨r, hr, h⟩ := ho X A
  exact PE.imp (pe_un hr (ha.n A tk)) fun σ H Q t => read1 h t

/-! ### tests -/
abbrev Tx := Rho → Out (Bool × Rho)
def tT (K : PySem.W.Frag) (g : Cf) (f : Tx) (W : WX) : TT := fun σ H Q => ∃ ρ, ER K g ρ σ H ∧ Pst K g σ H W (fun p H' => ER K g p.2 σ H' → Q p.1 H') (f ρ)
def TOk (g : Cf) (e : Expr) (f : Tx) : Prop := ∀ (X : Cx) (W : WX), At g X → Takes X W → PT X e (tT X.K g f W)
/-- a test's answer as a value -/
def bE (t : Tx) : Ex := fun ρ => t ρ >>= fun p => .ok (.v (.bl p.1), p.2)
theorem tT_step {K : PySem.W.Frag} {σ : L2.St} {H : Hp} {W : WX} {β : Type} {G : β → Hp → Prop} {ρ : Rho} {fa : Tx} {k : Bool × Rho → Out β} {Q : Bool → Hp → Prop} (R : ER K g ρ σ H) (q : Pst K g σ H W G (fa ρ >>= k))
    (h : ∀ s ρ1 H1, ER K g ρ1 σ H1 → Ext H H1 → Pst K g σ H1 W G (k (s, ρ1)) → Q s H1) : tT K g fa W σ H Q := by
  refine ⟨ρ, R, ?_⟩
  cases ha : fa ρ with
  | stuck => rw [ha] at q; exact q.elim
  | exc c ρ1 => rw [ha] at q; exact q
  | ok p =>
    rw [ha] at q
    exact fun H1 E1 R1 => h p.1 p.2 H1 R1 E1 (Pst.ext E1 (r := k p) q)
def dTru : D → Option Bool
  | .non => some false
  | .bl b => some b
  | .int i => some (i != 0)
  | .str x => if x.length ≤ 16777216 then some ((x.length : Int) != 0) else none
  | .tup ds => some (!ds.isEmpty)
  | .lst ds => some (!ds.isEmpty)
  | .dic _ => none
  | .scr ns => some (!ns.isEmpty)
theorem immL_empty {K : PySem.W.Frag} {H : Hp} : ∀ {ds : List D} {vs : List V}, ImmL K H ds vs → (!vs.isEmpty) = !ds.isEmpty
  | [], _, h => by cases (show _ = _ from h); rfl
  | d :: ds, _, ⟨v, r, e1, _⟩ => by subst e1; rfl
theorem tru_of {K : PySem.W.Frag} {H : Hp} {d : D} {x : V} {k : Bool} (r : Rd K H d x) (h : dTru d = some k) : TruV K x H k := by
  cases d with
  | non => cases r.non; cases h; rfl
  | bl b => cases r.bl; cases h; rfl
  | int i => cases r.int; cases h; rfl
  | str z =>
    cases r.str
    simp only [dTru] at h
    split at h
    · rename_i hz
      cases h
      exact ⟨by rw [sizeLine_eq]; exact hz, rfl⟩
    · cases h
  | tup ds =>
    obtain ⟨a, vs, rfl, h1, h2⟩ := r.tup
    cases h
    exact .inr (.inl ⟨vs, h1.seq, (immL_empty h2).symm⟩)
  | lst ds =>
    obtain ⟨a, vs, rfl, h1, h2⟩ := r.lst
    cases h
    exact .inl ⟨vs, h1, (immL_empty h2).symm⟩
  | dic kvs => cases h
  | scr ns =>
    obtain ⟨a, rfl, h1⟩ := r.scr
    cases h
    exact .inl ⟨_, h1, by cases ns <;> rfl⟩
def tTru (fa : Ex) : Tx := fun ρ => fa ρ >>= fun p => pk p.2 p.1 >>= fun d => liftO (dTru d) >>= fun b => .ok (b, p.2)
theorem t_tru {fa : Ex} (ha : EOk g a fa) (he : ∀ env whole, isTrue a env whole = (do let v ← whole; standAt a.pos; holding [v] (truthy v)) := by intro _ _; rfl) : TOk g a (tTru fa) := fun X W A tk => by
  refine PT.imp (pt_truth (ha.n A tk) (he _)) fun σ H Q ⟨ρ, R, q⟩ => ?_
  refine tN_step R q fun s1 ρ1 x H1 R1 E1 n1 q1 => ?_
  obtain ⟨d1, h1, q3⟩ := q1.pk
  obtain ⟨k, ho, q5⟩ := q3.opt
  exact ⟨k, tru_of (pk_rd n1 R1 (Ext.refl _) h1) ho, q5 H1 (Ext.refl _) R1⟩
/-- comparisons -/
def OpB (X : Cx) (f : Value → Value → Sem Value) (od : D → D → Option Bool) : Prop :=
  ∃ r : R2, OpR X f r ∧ ∀ (x y : V) (H : Hp) (Q : VK) (d1 d2 : D) (k : Bool), Rd X.K H d1 x → Rd X.K H d2 y → od d1 d2 = some k → Q (.bl k) H → r x y H Q
def t2 (od : D → D → Option Bool) (fa fb : Ex) : Tx := fun ρ => fa ρ >>= fun p => fb p.2 >>= fun q => pk q.2 p.1 >>= fun d1 => pk q.2 q.1 >>= fun d2 => liftO (od d1 d2) >>= fun k => .ok (k, q.2)
theorem readC {X : Cx} {W : WX} {β : Type} {G : β → Hp → Prop} {r : R2} {od : D → D → Option Bool} {fa fb : Ex} {σ : L2.St} {H : Hp} {Q : VK} {ρ : Rho} {k : Bool × Rho → Out β}
    (h : ∀ (x y : V) (H : Hp) (Q : VK) (d1 d2 : D) (k : Bool), Rd X.K H d1 x → Rd X.K H d2 y → od d1 d2 = some k → Q (.bl k) H → r x y H Q)
    (R : ER X.K g ρ σ H) (t : Pst X.K g σ H W G (t2 od fa fb ρ >>= k)) (hk : ∀ b ρ2 H2, ER X.K g ρ2 σ H2 → Ext H H2 → Pst X.K g σ H2 W G (k (b, ρ2)) → Q (.bl b) H2) : tN X.K g fa W σ H fun x H1 => tN X.K g fb W σ H1 fun y H2 => r x y H2 Q := by
  have bb : t2 od fa fb ρ >>= k = (fa ρ >>= fun p => fb p.2 >>= fun q => pk q.2 p.1 >>= fun d1 => pk q.2 q.1 >>= fun d2 => liftO (od d1 d2) >>= fun b => k (b, q.2)) := by
    unfold t2
    cases fa ρ with
    | stuck => rfl
    | exc c ρ1 => rfl
    | ok p =>
      simp only [bind_ok]
      cases fb p.2 with
      | stuck => rfl
      | exc c ρ1 => rfl
      | ok q =>
        simp only [bind_ok]
        cases pk q.2 p.1 with
        | stuck => rfl
        | exc c ρ1 => rfl
        | ok d1 =>
          simp only [bind_ok]
          cases pk q.2 q.1 with
          | stuck => rfl
          | exc c ρ1 => rfl
          | ok d2 =>
            simp only [bind_ok]
            cases od d1 d2 <;> rfl
  rw [bb] at t
  refine tN_step R t fun s1 ρ1 x H1 R1 E1 n1 q1 => tN_step R1 q1 fun s2 ρ2 y H2 R2 E2 n2 q2 => ?_
  obtain ⟨d1, h1, q3⟩ := q2.pk
  obtain ⟨d2, h2, q4⟩ := q3.pk
  obtain ⟨s, ho, q5⟩ := q4.opt
  exact h x y H2 Q d1 d2 s (pk_rd n1 R2 E2 h1) (pk_rd n2 R2 (Ext.refl _) h2) ho (hk s ρ2 H2 R2 (E1.trans E2) q5)
theorem bind_self {α : Type} (r : Out α) : (r >>= fun p => Out.ok p) = r := by cases r <;> rfl
theorem e_cmp {op : CmpOp} {od : D → D → Option Bool} {fa fb : Ex} (ho : ∀ X, At g X → OpB X (compareOp op) od) (ha : EOk g a fa) (hb : EOk g b fb) (hm : behindInMarks op b = false := by first | exact nomark _ | rfl) : EOk g (.Compare a [op] [b] pos) (bE (t2 od fa fb)) := fun X W A tk => by
  obtain ⟨r, hr, h⟩ := ho X A
  exact PE.imp (pe_cmpR hr (ha.n A tk) (hb.n A tk) hm) fun σ H Q ⟨ρ, R, q⟩ => readC h R q fun b ρ2 H2 R2 E2 q => q H2 (Ext.refl _) R2 _ rfl
theorem t_cmp {op : CmpOp} {od : D → D → Option Bool} {fa fb : Ex} (ho : ∀ X, At g X → OpB X (compareOp op) od) (ha : EOk g a fa) (hb : EOk g b fb) (hm : behindInMarks op b = false := by first | exact nomark _ | rfl) : TOk g (.Compare a [op] [b] pos) (t2 od fa fb) := fun X W A tk => by
  obtain ⟨r, hr, h⟩ := ho X A
  refine PT.imp (pt_cmpR hr (ha.n A tk) (hb.n A tk) hm) fun σ H Q ⟨ρ, R, q⟩ => ?_
  refine readC h R (G := fun p H' => ER X.K g p.2 σ H' → Q p.1 H') (k := fun p => .ok p) (by rw [bind_self]; exact q) fun b ρ2 H2 R2 E2 q => ⟨b, rfl, q H2 (Ext.refl _) R2⟩
def tCh (od od' : D → D → Option Bool) (fa fb fc : Ex) : Tx := fun ρ => fa ρ >>= fun p => fb p.2 >>= fun q => pk q.2 p.1 >>= fun d1 => pk q.2 q.1 >>= fun d2 => liftO (od d1 d2) >>= fun k =>
  if k = true then fc q.2 >>= fun r => pk r.2 q.1 >>= fun d2 => pk r.2 r.1 >>= fun d3 => liftO (od' d2 d3) >>= fun k' => .ok (k', r.2) else .ok (false, q.2)
theorem readCh {X : Cx} {W : WX} {r r' : R2} {od od' : D → D → Option Bool} {fa fb fc : Ex} {σ : L2.St} {H : Hp} {Q : VK} {ρ : Rho}
    (h : ∀ (x y : V) (H : Hp) (Q : VK) (d1 d2 : D) (k : Bool), Rd X.K H d1 x → Rd X.K H d2 y → od d1 d2 = some k → Q (.bl k) H → r x y H Q)
    (h' : ∀ (x y : V) (H : Hp) (Q : VK) (d1 d2 : D) (k : Bool), Rd X.K H d1 x → Rd X.K H d2 y → od' d1 d2 = some k → Q (.bl k) H → r' x y H Q)
    (R : ER X.K g ρ σ H) (t : Pst X.K g σ H W (fun p H' => ER X.K g p.2 σ H' → Q (.bl p.1) H') (tCh od od' fa fb fc ρ)) : tChain r r' (tN X.K g fa W) (tN X.K g fb W) (tN X.K g fc W) σ H Q := by
  refine tN_step R t fun s1 ρ1 x H1 R1 E1 n1 q1 => tN_step R1 q1 fun s2 ρ2 y H2 R2 E2 n2 q2 => ?_
  obtain ⟨d1, h1, q3⟩ := q2.pk
  obtain ⟨d2, h2, q4⟩ := q3.pk
  obtain ⟨k, ho, q5⟩ := q4.opt
  refine h x y H2 _ d1 d2 k (pk_rd n1 R2 E2 h1) (pk_rd n2 R2 (Ext.refl _) h2) ho ⟨k, rfl, ?_⟩
  cases k with
  | false => exact iteF (q5 H2 (Ext.refl _) R2)
  | true =>
    refine iteT (tN_step R2 q5 fun s3 ρ3 z H3 R3 E3 n3 q6 => ?_)
    obtain ⟨d2', h2', q7⟩ := q6.pk
    obtain ⟨d3, h3, q8⟩ := q7.pk
    obtain ⟨k', ho', q9⟩ := q8.opt
    exact h' y z H3 Q d2' d3 k' (pk_rd n2 R3 E3 h2') (pk_rd n3 R3 (Ext.refl _) h3) ho' (q9 H3 (Ext.refl _) R3)
theorem e_chain {op op' : CmpOp} {od od' : D → D → Option Bool} {fa fb fc : Ex} (ho : ∀ X, At g X → OpB X (compareOp op) od) (ho' : ∀ X, At g X → OpB X (compareOp op') od') (ha : EOk g a fa) (hb : EOk g b fb) (hc : EOk g c fc)
    (hm : lastMarks [op, op'] [b, c] = false := by with_unfolding_all rfl) : EOk g (.Compare a [op, op'] [b, c] pos) (bE (tCh od od' fa fb fc)) := fun X W A tk => by
  obtain ⟨r, hr, h⟩ := ho X A
  obtain ⟨r', hr', h'⟩ := ho' X A
  refine PE.imp (pe_chain hr hr' (ha.n A tk) (hb.n A tk) (hc.n A tk) hm) fun σ H Q ⟨ρ, R, q⟩ => readCh h h' R ?_
  unfold bE at q
  cases ht : tCh od od' fa fb fc ρ with
  | stuck => rw [ht] at q; exact q
  | exc c ρ1 => rw [ht] at q; exact q
  | ok p => rw [ht] at q; exact fun H' e R' => q H' e R' _ rfl
theorem t_chain {op op' : CmpOp} {od od' : D → D → Option Bool} {fa fb fc : Ex} (ho : ∀ X, At g X → OpB X (compareOp op) od) (ho' : ∀ X, At g X → OpB X (compareOp op') od') (ha : EOk g a fa) (hb : EOk g b fb) (hc : EOk g c fc)
    (hm : lastMarks [op, op'] [b, c] = false := by with_unfolding_all rfl) : TOk g (.Compare a [op, op'] [b, c] pos) (tCh od od' fa fb fc) := fun X W A tk => by
  obtain ⟨r, hr, h⟩ := ho X A
  obtain ⟨r', hr', h'⟩ := ho' X A
  refine PT.imp (pt_chain hr hr' (ha.n A tk) (hb.n A tk) (hc.n A tk) hm) fun σ H Q ⟨ρ, R, q⟩ => readCh h h' R ?_
  cases ht : tCh od od' fa fb fc ρ with
  | stuck => rw [ht] at q; exact q
  | exc c ρ1 => rw [ht] at q; exact q
  | ok p => rw [ht] at q; exact fun H' e R' => ⟨_, rfl, q H' e R'⟩
/-! ### and, or, not, if -/
def WOk (g : Cf) (e : Expr) (f : Tx) : Prop := ∀ (X : Cx) (W : WX), At g X → Takes X W → PW X e (tT X.K g f W)
theorem PW.imp {X : Cx} {e : Expr} {t t' : TT} (h : PW X e t) (hi : ∀ σ H Q, t' σ H Q → t σ H Q) : PW X e t' := ⟨fun wh pins s σ H Q I q => h.run wh pins s σ H Q I (hi σ H Q q)⟩
def tAnd (t u : Tx) : Tx := fun ρ => t ρ >>= fun p => if p.1 = true then u p.2 else .ok (false, p.2)
def tOr (t u : Tx) : Tx := fun ρ => t ρ >>= fun p => if p.1 = true then .ok (true, p.2) else u p.2
def tNot (t : Tx) : Tx := fun ρ => t ρ >>= fun p => .ok (!p.1, p.2)
theorem w_and1 {t : Tx} (h : TOk g a t) : WOk g (.BoolOp .And [a] pos) t := fun X W A tk => pw_and1 (h X W A tk)
theorem w_or1 {t : Tx} (h : TOk g a t) : WOk g (.BoolOp .Or [a] pos) t := fun X W A tk => pw_or1 (h X W A tk)
theorem w_and {t u : Tx} (h : TOk g a t) (h2 : WOk g (.BoolOp .And (b :: rest) pos) u) : WOk g (.BoolOp .And (a :: b :: rest) pos) (tAnd t u) := fun X W A tk => by
  refine PW.imp (pw_and (h X W A tk) (h2 X W A tk)) fun σ H Q ⟨ρ, R, q⟩ => tT_step R q fun k ρ1 H1 R1 E1 q1 => ?_
  cases k with
  | true => exact iteT ⟨ρ1, R1, q1⟩
  | false => exact iteF (q1 H1 (Ext.refl _) R1)
theorem w_or {t u : Tx} (h : TOk g a t) (h2 : WOk g (.BoolOp .Or (b :: rest) pos) u) : WOk g (.BoolOp .Or (a :: b :: rest) pos) (tOr t u) := fun X W A tk => by
  refine PW.imp (pw_or (h X W A tk) (h2 X W A tk)) fun σ H Q ⟨ρ, R, q⟩ => tT_step R q fun k ρ1 H1 R1 E1 q1 => ?_
  cases k with
  | true => exact iteT (q1 H1 (Ext.refl _) R1)
  | false => exact iteF ⟨ρ1, R1, q1⟩
theorem t_w {t : Tx} (h : WOk g e t) : TOk g e t := fun X W A tk => (h X W A tk).pt
theorem t_not {t : Tx} (h : TOk g a t) : TOk g (.UnaryOp .Not a pos) (tNot t) := fun X W A tk =>
  PT.imp (pt_not (h X W A tk)) fun σ H Q ⟨ρ, R, q⟩ => tT_step R q fun k ρ1 H1 R1 E1 q1 => q1 H1 (Ext.refl _) R1
/-- .. as values, of bools -/
def eAnd (fa fb : Ex) : Ex := fun ρ => fa ρ >>= fun p => pk p.2 p.1 >>= fun d => match d with
  | .bl true => fb p.2
  | .bl false => .ok (.v (.bl false), p.2)
  | _ => .stuck
def eOr (fa fb : Ex) : Ex := fun ρ => fa ρ >>= fun p => pk p.2 p.1 >>= fun d => match d with
  | .bl true => .ok (.v (.bl true), p.2)
  | .bl false => fb p.2
  | _ => .stuck
def eNot (fa : Ex) : Ex := fun ρ => fa ρ >>= fun p => pk p.2 p.1 >>= fun d => match d with
  | .bl k => .ok (.v (.bl (!k)), p.2)
  | _ => .stuck
theorem e_one {op : BoolOp} {fa : Ex} (h : EOk g a fa) : EOk g (.BoolOp op [a] pos) fa := fun X W A tk => pe_one (h X W A tk)
theorem e_and {fa fb : Ex} (h : EOk g a fa) (h2 : EOk g (.BoolOp .And (b :: rest) pos) fb) : EOk g (.BoolOp .And (a :: b :: rest) pos) (eAnd fa fb) := fun X W A tk => by
  refine PE.imp (pe_and (h.n A tk) (h2 X W A tk)) fun σ H Q ⟨ρ, R, q⟩ => tN_step R q fun s1 ρ1 x H1 R1 E1 n1 q1 => ?_
  obtain ⟨d1, h1, q3⟩ := q1.pk
  have rd := pk_rd n1 R1 (Ext.refl _) h1
  cases d1 with
  | bl k =>
    refine ⟨k, rd.bl, ?_⟩
    cases k with
    | true => exact iteT ⟨ρ1, R1, q3⟩
    | false => exact iteF (q3 H1 (Ext.refl _) R1 _ rfl)
  | _ => exact q3.elim
theorem e_or {fa fb : Ex} (h : EOk g a fa) (h2 : EOk g (.BoolOp .Or (b :: rest) pos) fb) : EOk g (.BoolOp .Or (a :: b :: rest) pos) (eOr fa fb) := fun X W A tk => by
  refine PE.imp (pe_or (h.n A tk) (h2 X W A tk)) fun σ H Q ⟨ρ, R, q⟩ => tN_step R q fun s1 ρ1 x H1 R1 E1 n1 q1 => ?_
  obtain ⟨d1, h1, q3⟩ := q1.pk
  have rd := pk_rd n1 R1 (Ext.refl _) h1
  cases d1 with
  | bl k =>
    refine ⟨k, rd.bl, ?_⟩
    cases k with
    | true => exact iteT (q3 H1 (Ext.refl _) R1 _ rfl)
    | false => exact iteF ⟨ρ1, R1, q3⟩
  | _ => exact q3.elim
theorem e_not {fa : Ex} (h : EOk g a fa) : EOk g (.UnaryOp .Not a pos) (eNot fa) := fun X W A tk => by
  refine PE.imp (pe_not (h.n A tk)) fun σ H Q ⟨ρ, R, q⟩ => tN_step R q fun s1 ρ1 x H1 R1 E1 n1 q1 => ?_
  obtain ⟨d1, h1, q3⟩ := q1.pk
  have rd := pk_rd n1 R1 (Ext.refl _) h1
  cases d1 with
  | bl k => exact ⟨k, rd.bl, q3 H1 (Ext.refl _) R1 _ rfl⟩
  | _ => exact q3.elim
def eIf (t : Tx) (fa fb : Ex) : Ex := fun ρ => t ρ >>= fun p => if p.1 = true then fa p.2 else fb p.2
theorem tE_ext {K : PySem.W.Frag} {f : Ex} {W : WX} {σ : L2.St} {H : Hp} {Q : VK} {ρ : Rho} (R : ER K g ρ σ H) (q : Pst K g σ H W (fun p H' => ER K g p.2 σ H' → ∀ x, SR K g p.2 σ H' p.1 x → Q x H') (f ρ)) : tE K g f W σ H Q := ⟨ρ, R, q⟩
theorem e_if {t : Tx} {fa fb : Ex} (h : TOk g c t) (ha : EOk g a fa) (hb : EOk g b fb) : EOk g (.IfExp c a b pos) (eIf t fa fb) := fun X W A tk => by
  refine PE.imp (pe_ifExp (h X W A tk) (ha X W A tk) (hb X W A tk)) fun σ H Q ⟨ρ, R, q⟩ => tT_step R q fun k ρ1 H1 R1 E1 q1 => ?_
  cases k with
  | true => exact iteT ⟨ρ1, R1, q1⟩
  | false => exact iteF ⟨ρ1, R1, q1⟩
end
end PL

namespace PL
open PySem PySem.Spec PyProof.Rows L2
/-! ### locks of own objects -/
theorem lock_slot {K : PySem.W.Frag} {g : Cf} {ρ : Rho} {σ : L2.St} {H : Hp} {i : Nat} {d : D} (R : ER K g ρ σ H) (hi : ρ[i]? = some (some (.o d))) (hio : i ∉ g.ios) :
    ∃ a u, σ[i]? = some (some (.ref a)) ∧ H a = some u ∧ Mut (some u) ∧ ∀ od, ER K g (ρ.set i (some (.v d))) σ (upd H a (.frz od u)) ∧ Ext H (upd H a (.frz od u)) ∧ Imm K (upd H a (.frz od u)) d (.ref a) := by
  obtain ⟨a, ha, o⟩ := R.own i d hi
  obtain ⟨u, hu, mu⟩ := o.some
  refine ⟨a, u, ha, hu, mu, fun od => ?_⟩
  have x : Ext H (upd H a (.frz od u)) := fun b ob hb => by
    by_cases hba : b = a
    · subst hba
      rw [hu] at hb; cases hb
      exact ⟨fun xs e => by subst e; exact mu.elim, fun _ _ e => by subst e; exact mu.elim⟩
    · exact ⟨fun _ _ => by rw [upd_ne hba]; exact hb, fun _ _ _ => by rw [upd_ne hba]; exact hb⟩
  have im : Imm K (upd H a (.frz od u)) d (.ref a) := by
    cases d with
    | lst ds =>
      obtain ⟨vs, h1, h2⟩ := o
      rw [hu] at h1; cases h1
      exact ⟨a, vs, rfl, ⟨od, upd_same⟩, ImmL.ext x ds vs h2⟩
    | dic kvs =>
      rcases o with ⟨kws, h1, h2⟩ | ⟨kws, h1, h2⟩
      · rw [hu] at h1; cases h1
        exact ⟨a, od, rfl, .inl ⟨kws, upd_same, ImmK.ext x kvs kws h2⟩⟩
      · rw [hu] at h1; cases h1
        exact ⟨a, od, rfl, .inr ⟨kws, upd_same, ImmT.ext x kvs kws h2⟩⟩
    | _ => exact o.elim
  have hlt : i < ρ.length := by
    rcases Nat.lt_or_ge i ρ.length with h | h
    · exact h
    · rw [List.getElem?_eq_none h] at hi; cases hi
  have notio : ∀ j, (j, a) ∉ g.io := fun j hj => by
    obtain ⟨h1, d', h2⟩ := R.io _ hj
    have := R.sep i j d d' a hi h2 ha h1
    subst this
    exact hio (List.mem_map.mpr ⟨_, hj, rfl⟩)
  have h0 : g.H0 a = none := (R.new i d a hi ha).elim id fun z => (notio i z).elim
  refine ⟨⟨by rw [List.length_set]; exact R.len, fun j e hj => ?_, fun j e hj => ?_, fun j m hj => ?_, fun j m e e' b hj hm => ?_, fun b ob hb hp => ?_, fun j e b hj hb => ?_, fun p hp => ?_⟩, x, im⟩
  · by_cases hji : j = i
    · subst hji
      rw [List.getElem?_set_self hlt] at hj
      cases hj
      exact ⟨_, ha, im⟩
    · rw [List.getElem?_set_ne (Ne.symm hji)] at hj
      obtain ⟨y, h1, h2⟩ := R.val j e hj
      exact ⟨y, h1, Imm.ext x e y h2⟩
  · have hji : j ≠ i := fun z => by
      subst z
      rw [List.getElem?_set_self hlt] at hj
      cases hj
    rw [List.getElem?_set_ne (Ne.symm hji)] at hj
    obtain ⟨b, h1, h2⟩ := R.own j e hj
    have hb : b ≠ a := fun z => by
      subst z
      exact hji (R.sep j i e d b hj hi h1 ha)
    exact ⟨b, h1, h2.ext x (upd_ne hb)⟩
  · by_cases hji : j = i
    · subst hji
      rw [List.getElem?_set_self hlt] at hj
      cases hj
    · rw [List.getElem?_set_ne (Ne.symm hji)] at hj
      exact R.bor j m hj
  · have hji : j ≠ i := fun z => by subst z; rw [List.getElem?_set_self hlt] at hj; cases hj
    have hmi : m ≠ i := fun z => by subst z; rw [List.getElem?_set_self hlt] at hm; cases hm
    rw [List.getElem?_set_ne (Ne.symm hji)] at hj
    rw [List.getElem?_set_ne (Ne.symm hmi)] at hm
    exact R.sep j m e e' b hj hm
  · rw [upd_ne (fun z => by rw [z, h0] at hb; cases hb)]
    exact R.old b ob hb hp
  · have hji : j ≠ i := fun z => by subst z; rw [List.getElem?_set_self hlt] at hj; cases hj
    rw [List.getElem?_set_ne (Ne.symm hji)] at hj
    exact R.new j e b hj hb
  · obtain ⟨h1, d', h2⟩ := R.io p hp
    refine ⟨h1, ?_⟩
    have hpi : p.1 ≠ i := fun z => hio (List.mem_map.mpr ⟨p, hp, z⟩)
    rw [List.getElem?_set_ne (Ne.symm hpi)]
    exact ⟨d', h2⟩
/-- a value is shared: locked if it is an own object -/
theorem fz_ok {X : Cx} {g : Cf} {pins : List (Addr × Obj)} {σ : L2.St} {H : Hp} {s : Shared} {z : S} {x : V} {ρ ρ' : Rho} {d : D} (I : Inv X pins σ H s) (R : ER X.K g ρ σ H) (n : NR X.K σ H z x) (h : fz g.ios z ρ = .ok (d, ρ')) :
    ∃ H', Inv X pins σ H' s ∧ ER X.K g ρ' σ H' ∧ Ext H H' ∧ Imm X.K H' d x := by
  cases z with
  | v d' => cases h; exact ⟨H, I, R, Ext.refl H, n⟩
  | o d' => cases h; exact ⟨H, I, R, Ext.refl H, n⟩
  | b i =>
    have n1 : σ[i]? = some (some x) := n
    simp only [fz] at h
    split at h
    · cases h
    · rename_i hio
      cases hs : ρ[i]? with
      | none => simp only [hs] at h; cases h
      | some o =>
        cases o with
        | none => simp only [hs] at h; cases h
        | some w =>
          cases w with
          | b j => simp only [hs] at h; cases h
          | v d' =>
            simp only [hs] at h
            cases h
            obtain ⟨y, h1, h2⟩ := R.val i _ hs
            rw [n1] at h1; cases h1
            exact ⟨H, I, R, Ext.refl H, h2⟩
          | o d' =>
            simp only [hs] at h
            cases h
            obtain ⟨a, u, ha, hu, mu, F⟩ := lock_slot R hs hio
            rw [n1] at ha; cases ha
            obtain ⟨od, I2⟩ := I.lock hu mu
            obtain ⟨R2, e2, im⟩ := F od
            exact ⟨_, I2, R2, e2, im⟩
theorem fz_noexc {l : List Nat} {ρ ρ' : Rho} {s : S} {c : Str} (h : fz l s ρ = .exc c ρ') : False := by
  cases s with
  | v d => cases h
  | o d => cases h
  | b i =>
    simp only [fz] at h
    split at h
    · cases h
    · split at h <;> cases h
def fzL (l : List Nat) : List S → Rho → Out (List D × Rho)
  | [], ρ => .ok ([], ρ)
  | s :: ss, ρ => fz l s ρ >>= fun p => fzL l ss p.2 >>= fun q => .ok (p.1 :: q.1, q.2)
def NRL (K : PySem.W.Frag) (σ : L2.St) (H : Hp) : List S → List V → Prop
  | [], xs => xs = []
  | s :: ss, xs => ∃ x r, xs = x :: r ∧ NR K σ H s x ∧ NRL K σ H ss r
theorem NR.ext {K : PySem.W.Frag} {σ : L2.St} {H H' : Hp} (e : Ext H H') : ∀ {s : S} {x : V}, NR K σ H s x → NR K σ H' s x
  | .v d, x, h => Imm.ext e d x h
  | .o d, x, h => Imm.ext e d x h
  | .b i, x, h => h
theorem NRL.ext {K : PySem.W.Frag} {σ : L2.St} {H H' : Hp} (e : Ext H H') : ∀ {s : List S} {x : List V}, NRL K σ H s x → NRL K σ H' s x
  | [], x, h => h
  | s :: ss, x, ⟨y, r, h1, h2, h3⟩ => ⟨y, r, h1, NR.ext e h2, NRL.ext e h3⟩
theorem fzL_noexc {l : List Nat} : ∀ {ss : List S} {ρ ρ' : Rho} {c : Str}, fzL l ss ρ = .exc c ρ' → False
  | [], _, _, _, h => nomatch h
  | s :: ss, ρ, ρ', c, h => by
    unfold fzL at h
    cases hs : fz l s ρ with
    | stuck => rw [hs] at h; cases h
    | exc c ρ' => exact fz_noexc hs
    | ok p =>
      rw [hs] at h
      simp only [bind_ok] at h
      cases hr : fzL l ss p.2 with
      | stuck => rw [hr] at h; cases h
      | exc c ρ' => exact fzL_noexc hr
      | ok q => rw [hr] at h; cases h
theorem fzL_ok {X : Cx} {g : Cf} {pins : List (Addr × Obj)} {σ : L2.St} {s : Shared} : ∀ {zs : List S} {xs : List V} {H : Hp} {ρ ρ' : Rho} {ds : List D}, Inv X pins σ H s → ER X.K g ρ σ H → NRL X.K σ H zs xs → fzL g.ios zs ρ = .ok (ds, ρ') →
    ∃ H', Inv X pins σ H' s ∧ ER X.K g ρ' σ H' ∧ Ext H H' ∧ ImmL X.K H' ds xs
  | [], xs, H, ρ, ρ', ds, I, R, n, h => by cases h; exact ⟨H, I, R, Ext.refl H, n⟩
  | z :: zs, xs, H, ρ, ρ', ds, I, R, ⟨y, r, h1, h2, h3⟩, h => by
    subst h1
    unfold fzL at h
    cases hs : fz g.ios z ρ with
    | stuck => rw [hs] at h; cases h
    | exc c ρ' => exact (fz_noexc hs).elim
    | ok p =>
      rw [hs] at h
      simp only [bind_ok] at h
      cases hr : fzL g.ios zs p.2 with
      | stuck => rw [hr] at h; cases h
      | exc c ρ' => exact (fzL_noexc hr).elim
      | ok q =>
        rw [hr] at h
        cases h
        obtain ⟨H1, I1, R1, E1, im1⟩ := fz_ok I R h2 (d := p.1) (ρ' := p.2) hs
        obtain ⟨H2, I2, R2, E2, im2⟩ := fzL_ok I1 R1 (NRL.ext E1 h3) (ds := q.1) (ρ' := q.2) hr
        exact ⟨H2, I2, R2, E1.trans E2, y, r, rfl, Imm.ext E2 _ _ im1, im2⟩
theorem Pst.fz {K : PySem.W.Frag} {g : Cf} {σ : L2.St} {H : Hp} {W : WX} {β : Type} {G : β → Hp → Prop} {l : List Nat} {ρ : Rho} {s : S} {k : D × Rho → Out β} (q : Pst K g σ H W G (PL.fz l s ρ >>= k)) : ∃ p, PL.fz l s ρ = .ok p ∧ Pst K g σ H W G (k p) := by
  cases h : PL.fz l s ρ with
  | stuck => rw [h] at q; exact q.elim
  | exc c ρ' => exact (fz_noexc h).elim
  | ok d => rw [h] at q; exact ⟨d, rfl, q⟩
theorem Pst.fzL {K : PySem.W.Frag} {g : Cf} {σ : L2.St} {H : Hp} {W : WX} {β : Type} {G : β → Hp → Prop} {l : List Nat} {ρ : Rho} {s : List S} {k : List D × Rho → Out β} (q : Pst K g σ H W G (PL.fzL l s ρ >>= k)) : ∃ p, PL.fzL l s ρ = .ok p ∧ Pst K g σ H W G (k p) := by
  cases h : PL.fzL l s ρ with
  | stuck => rw [h] at q; exact q.elim
  | exc c ρ' => exact (fzL_noexc h).elim
  | ok d => rw [h] at q; exact ⟨d, rfl, q⟩
section
variable {g : Cf} {e a b c : Expr} {es : List Expr} {pos : Pos}
/-- an expression whose value is shared -/
def eF (l : List Nat) (f : Ex) : Rho → Out (D × Rho) := fun ρ => f ρ >>= fun p => fz l p.1 p.2
def tF (K : PySem.W.Frag) (g : Cf) (f : Ex) (W : WX) : TE := fun σ H Q => ∃ ρ, ER K g ρ σ H ∧ Pst K g σ H W (fun p H' => ER K g p.2 σ H' → ∀ x, Imm K H' p.1 x → Q x H') (eF g.ios f ρ)
theorem EOk.f {f : Ex} (h : EOk g e f) {X : Cx} {W : WX} (A : At g X) (tk : Takes X W) : PE X e (tF X.K g f W) := by
  refine ⟨fun pins s σ H Q I ⟨ρ, R, q⟩ => ?_⟩
  have hN := (h.n A tk).run pins s σ H (fun x H' => ∃ z ρ1 p, ER X.K g ρ1 σ H' ∧ NR X.K σ H' z x ∧ fz g.ios z ρ1 = .ok p ∧ ∀ H2, Ext H' H2 → ER X.K g p.2 σ H2 → ∀ x, Imm X.K H2 p.1 x → Q x H2) I (by
    refine tN_step R q fun z ρ1 x H1 R1 E1 n1 q1 => ?_
    cases hf : fz g.ios z ρ1 with
    | stuck => rw [hf] at q1; exact q1.elim
    | exc c ρ' => exact (fz_noexc hf).elim
    | ok p => rw [hf] at q1; exact ⟨z, ρ1, p, R1, n1, hf, q1⟩)
  refine thn hN fun u s1 ⟨x, H1, I1, r1, z, ρ1, p, R1, n1, hf, q1⟩ => ?_
  obtain ⟨H2, I2, R2, E2, im⟩ := fz_ok I1 R1 n1 (d := p.1) (ρ' := p.2) hf
  exact ⟨x, H2, I2, r1, q1 H2 E2 R2 x im⟩
theorem tF_step {K : PySem.W.Frag} {σ : L2.St} {H : Hp} {W : WX} {β : Type} {G : β → Hp → Prop} {ρ : Rho} {fa : Ex} {k : D × Rho → Out β} {Q : VK} (R : ER K g ρ σ H) (q : Pst K g σ H W G (eF g.ios fa ρ >>= k))
    (h : ∀ d ρ1 x H1, ER K g ρ1 σ H1 → Ext H H1 → Imm K H1 d x → Pst K g σ H1 W G (k (d, ρ1)) → Q x H1) : tF K g fa W σ H Q := by
  refine ⟨ρ, R, ?_⟩
  cases ha : eF g.ios fa ρ with
  | stuck => rw [ha] at q; exact q.elim
  | exc c ρ1 => rw [ha] at q; exact q
  | ok p =>
    rw [ha] at q
    exact fun H1 E1 R1 x n => h p.1 p.2 x H1 R1 E1 n (Pst.ext E1 (r := k p) q)

/-! ### argument lists -/
abbrev Ax := Rho → Out (List S × Rho)
def tA (K : PySem.W.Frag) (g : Cf) (f : Ax) (W : WX) : TA := fun σ H Q => ∃ ρ, ER K g ρ σ H ∧ Pst K g σ H W (fun p H' => ER K g p.2 σ H' → ∀ x, NRL K σ H' p.1 x → Q x H') (f ρ)
def AOk (g : Cf) (es : List Expr) (f : Ax) : Prop := ∀ (X : Cx) (W : WX), At g X → Takes X W → PA X es (tA X.K g f W)
def aNil : Ax := fun ρ => .ok ([], ρ)
def aCons (f : Ex) (r : Ax) : Ax := fun ρ => f ρ >>= fun p => r p.2 >>= fun q => .ok (p.1 :: q.1, q.2)
theorem tA_step {K : PySem.W.Frag} {σ : L2.St} {H : Hp} {W : WX} {β : Type} {G : β → Hp → Prop} {ρ : Rho} {fa : Ax} {k : List S × Rho → Out β} {Q : List V → Hp → Prop} (R : ER K g ρ σ H) (q : Pst K g σ H W G (fa ρ >>= k))
    (h : ∀ s ρ1 x H1, ER K g ρ1 σ H1 → Ext H H1 → NRL K σ H1 s x → Pst K g σ H1 W G (k (s, ρ1)) → Q x H1) : tA K g fa W σ H Q := by
  refine ⟨ρ, R, ?_⟩
  cases ha : fa ρ with
  | stuck => rw [ha] at q; exact q.elim
  | exc c ρ1 => rw [ha] at q; exact q
  | ok p =>
    rw [ha] at q
    exact fun H1 E1 R1 x n => h p.1 p.2 x H1 R1 E1 n (Pst.ext E1 (r := k p) q)
theorem a_nil : AOk g [] aNil := fun X W A tk => PA.imp pa_nil fun σ H Q ⟨ρ, R, q⟩ => q H (Ext.refl H) R [] rfl
theorem a_cons {f : Ex} {r : Ax} (h : EOk g e f) (hr : AOk g es r) (hs : ∀ env, starEach (e :: es) env = (false, eval e env) :: starEach es env := by intro _; rfl) : AOk g (e :: es) (aCons f r) := fun X W A tk => by
  refine PA.imp (pa_cons (h.n A tk) (hr X W A tk) (hs _)) fun σ H Q ⟨ρ, R, q⟩ => tN_step R q fun s1 ρ1 x H1 R1 E1 n1 q1 => tA_step R1 q1 fun s2 ρ2 xs H2 R2 E2 n2 q2 => ?_
  exact q2 H2 (Ext.refl _) R2 _ ⟨x, xs, rfl, NR.ext E2 n1, n2⟩
/-- .. all of them shared -/
def aF (l : List Nat) (f : Ax) : Rho → Out (List D × Rho) := fun ρ => f ρ >>= fun p => fzL l p.1 p.2
def tAF (K : PySem.W.Frag) (g : Cf) (f : Ax) (W : WX) : TA := fun σ H Q => ∃ ρ, ER K g ρ σ H ∧ Pst K g σ H W (fun p H' => ER K g p.2 σ H' → ∀ x, ImmL K H' p.1 x → Q x H') (aF g.ios f ρ)
theorem AOk.f {f : Ax} (h : AOk g es f) {X : Cx} {W : WX} (A : At g X) (tk : Takes X W) : PA X es (tAF X.K g f W) := by
  refine ⟨fun pos pins s σ H Q I ⟨ρ, R, q⟩ => ?_⟩
  have hN := (h X W A tk).run pos pins s σ H (fun x H' => ∃ z ρ1 p, ER X.K g ρ1 σ H' ∧ NRL X.K σ H' z x ∧ fzL g.ios z ρ1 = .ok p ∧ ∀ H2, Ext H' H2 → ER X.K g p.2 σ H2 → ∀ x, ImmL X.K H2 p.1 x → Q x H2) I (by
    refine tA_step R q fun z ρ1 x H1 R1 E1 n1 q1 => ?_
    cases hf : fzL g.ios z ρ1 with
    | stuck => rw [hf] at q1; exact q1.elim
    | exc c ρ' => exact (fzL_noexc hf).elim
    | ok p => rw [hf] at q1; exact ⟨z, ρ1, p, R1, n1, hf, q1⟩)
  refine thn hN fun u s1 ⟨x, H1, I1, r1, z, ρ1, p, R1, n1, hf, q1⟩ => ?_
  obtain ⟨H2, I2, R2, E2, im⟩ := fzL_ok I1 R1 n1 (ds := p.1) (ρ' := p.2) hf
  exact ⟨x, H2, I2, r1, q1 H2 E2 R2 x im⟩
theorem tAF_step {K : PySem.W.Frag} {σ : L2.St} {H : Hp} {W : WX} {β : Type} {G : β → Hp → Prop} {ρ : Rho} {fa : Ax} {k : List D × Rho → Out β} {Q : List V → Hp → Prop} (R : ER K g ρ σ H) (q : Pst K g σ H W G (aF g.ios fa ρ >>= k))
    (h : ∀ s ρ1 x H1, ER K g ρ1 σ H1 → Ext H H1 → ImmL K H1 s x → Pst K g σ H1 W G (k (s, ρ1)) → Q x H1) : tAF K g fa W σ H Q := by
  refine ⟨ρ, R, ?_⟩
  cases ha : aF g.ios fa ρ with
  | stuck => rw [ha] at q; exact q.elim
  | exc c ρ1 => rw [ha] at q; exact q
  | ok p =>
    rw [ha] at q
    exact fun H1 E1 R1 x n => h p.1 p.2 x H1 R1 E1 n (Pst.ext E1 (r := k p) q)
/-! ### displays -/
def eTup (l : List Nat) (f : Ax) : Ex := fun ρ => aF l f ρ >>= fun p => if p.1.length ≤ 16777216 then .ok (.v (.tup p.1), p.2) else .stuck
def eLst (l : List Nat) (f : Ax) : Ex := fun ρ => aF l f ρ >>= fun p => if p.1.length ≤ 16777216 then .ok (.o (.lst p.1), p.2) else .stuck
theorem new_tup {K : PySem.W.Frag} {H : Hp} {p : Addr} {o : HO} (h : H p = none) : Same H (upd H p o) := fun b x e => by
  rw [upd_ne (ne_of_none e h)]
  exact e
theorem line_le {n : Nat} (h : n ≤ 16777216) : n ≤ sizeLine := by rw [sizeLine_eq]; exact h
theorem e_tup {f : Ax} {x1 : Nat} (h : AOk g es f) : EOk g (.Tuple es x1 pos) (eTup g.ios f) := fun X W A tk => by
  refine PE.imp (pe_tup (h.f A tk)) fun σ H Q ⟨ρ, R, q⟩ => tAF_step R q fun ds ρ1 xs H1 R1 E1 im q1 => ?_
  dsimp only at q1
  split at q1
  · rename_i hl
    refine ⟨line_le (by rw [im.len]; exact hl), fun p hp => ?_⟩
    have sm : Same H1 (upd H1 p (.tup xs)) := new_tup (K := X.K) hp
    exact q1 _ (Ext.of_same sm) (R1.same sm) _ ⟨p, xs, rfl, TpT.of upd_same, ImmL.ext (Ext.of_same sm) _ _ im⟩
  · exact q1.elim
theorem e_lst {f : Ax} (h : AOk g es f) : EOk g (.List es pos) (eLst g.ios f) := fun X W A tk => by
  refine PE.imp (pe_lst (h.f A tk)) fun σ H Q ⟨ρ, R, q⟩ => tAF_step R q fun ds ρ1 xs H1 R1 E1 im q1 => ?_
  dsimp only at q1
  split at q1
  · rename_i hl
    refine ⟨line_le (by rw [im.len]; exact hl), fun p hp => ?_⟩
    have sm : Same H1 (upd H1 p (.lst xs)) := new_tup (K := X.K) hp
    exact q1 _ (Ext.of_same sm) (R1.same sm) _ ⟨p, rfl, ⟨xs, upd_same, ImmL.ext (Ext.of_same sm) _ _ im⟩, not_own R1 hp, not_old R1 hp⟩
  · exact q1.elim
end
end PL

namespace PL
open PySem PySem.Spec PyProof.Rows L2
/-! ### equality of plain values -/
mutual
def toPy : D → PyData
  | .non => .none
  | .bl b => .bool b
  | .int i => .int i
  | .str x => .str x
  | .tup ds => .tuple (toPyL ds)
  | .lst ds => .list (toPyL ds)
  | .dic _ => .dict []
  | .scr _ => .dict []
def toPyL : List D → List PyData
  | [] => []
  | d :: ds => toPy d :: toPyL ds
end
def shp (d : D) : Bool := SeqAt.shaped (toPy d)
def eqD (d e : D) : Bool := PyData.eqv (toPy d) (toPy e)
mutual
theorem dp_imm {K : PySem.W.Frag} {H : Hp} : ∀ {d : D} {x : V}, Imm K H d x → PyData.canLay0 (toPy d) = true → Dp K H x (toPy d)
  | .non, _, h, _ => by cases (show _ = _ from h); exact .non
  | .bl b, _, h, _ => by cases (show _ = _ from h); exact .bl b
  | .int b, _, h, _ => by cases (show _ = _ from h); exact .int b
  | .str b, _, h, _ => by cases (show _ = _ from h); exact .str b
  | .tup ds, _, ⟨a, vs, e, h1, h2⟩, hc => by subst e; exact .tup h1.seq (dp_immL h2 (by simpa [toPy, PyData.canLay0] using hc))
  | .lst ds, _, ⟨a, vs, e, h1, h2⟩, hc => by subst e; exact .lst h1.seq (dp_immL h2 (by simpa [toPy, PyData.canLay0] using hc))
  | .dic _, _, _, hc => by simp [toPy, PyData.canLay0] at hc
  | .scr _, _, _, hc => by simp [toPy, PyData.canLay0] at hc
theorem dp_immL {K : PySem.W.Frag} {H : Hp} : ∀ {d : List D} {x : List V}, ImmL K H d x → PyData.canLayAll0 (toPyL d) = true → DpAll K H x (toPyL d)
  | [], _, h, _ => by cases (show _ = _ from h); exact .nil
  | d :: ds, _, ⟨v, r, e, h1, h2⟩, hc => by
    subst e
    have hc : PyData.canLay0 (toPy d) = true ∧ PyData.canLayAll0 (toPyL ds) = true := by simpa [toPyL, PyData.canLayAll0] using hc
    exact .cons (dp_imm h1 hc.1) (dp_immL h2 hc.2)
end
theorem dp_rd {K : PySem.W.Frag} {H : Hp} {d : D} {x : V} (h : Rd K H d x) (hc : PyData.canLay0 (toPy d) = true) : Dp K H x (toPy d) := by
  rcases h with h | ⟨a, e, h⟩
  · exact dp_imm h hc
  · cases d with
    | lst ds =>
      obtain ⟨vs, h1, h2⟩ := h
      subst e
      exact .lst (SqL.of h1) (dp_immL h2 (by simpa [toPy, PyData.canLay0] using hc))
    | dic kvs => simp [toPy, PyData.canLay0] at hc
    | _ => exact h.elim
def flat : D → Bool
  | .non => true | .bl _ => true | .int _ => true | .str _ => true | _ => false
def flatX : D → D → Bool
  | .non, .non => true | .non, .int _ => true | .int _, .non => true | .non, .bl _ => true | .bl _, .non => true | .non, .str _ => true | .str _, .non => true
  | .int _, .int _ => true | .bl _, .bl _ => true | .str _, .str _ => true
  | .int _, .str _ => true | .str _, .int _ => true | .bl _, .str _ => true | .str _, .bl _ => true
  | _, _ => false
def dEq (d e : D) : Option Bool := if flatX d e = true then some (eqD d e) else if shp d = true ∧ shp e = true then some (eqD d e) else none
def dNe (d e : D) : Option Bool := (dEq d e).map (!·)
theorem flat_scal {K : PySem.W.Frag} {H : Hp} {d e : D} {x y : V} (h : flatX d e = true) (r1 : Rd K H d x) (r2 : Rd K H e y) : scal x y = true ∧ decide (x = y) = eqD d e := by
  cases d <;> cases e <;> simp only [flatX] at h <;> try (exact absurd h (by decide))
  all_goals first
    | (cases r1.non; cases r2.non; exact ⟨rfl, rfl⟩)
    | (cases r1.non; cases r2.int; exact ⟨rfl, rfl⟩)
    | (cases r1.int; cases r2.non; exact ⟨rfl, rfl⟩)
    | (cases r1.non; cases r2.bl; exact ⟨rfl, rfl⟩)
    | (cases r1.bl; cases r2.non; exact ⟨rfl, rfl⟩)
    | (cases r1.non; cases r2.str; exact ⟨rfl, rfl⟩)
    | (cases r1.str; cases r2.non; exact ⟨rfl, rfl⟩)
    | (cases r1.int; cases r2.int; exact ⟨rfl, by rw [dec_int]; rfl⟩)
    | (cases r1.bl; cases r2.bl; exact ⟨rfl, by rw [dec_bl]; rfl⟩)
    | (cases r1.str; cases r2.str; exact ⟨rfl, by rw [dec_str]; rfl⟩)
    | (cases r1.int; cases r2.str; exact ⟨rfl, rfl⟩)
    | (cases r1.str; cases r2.int; exact ⟨rfl, rfl⟩)
    | (cases r1.bl; cases r2.str; exact ⟨rfl, rfl⟩)
    | (cases r1.str; cases r2.bl; exact ⟨rfl, rfl⟩)
theorem lay_of_shp {d : D} (h : shp d = true) : PyData.canLay0 (toPy d) = true := SeqAt.canLay_of_shaped h
section
variable {g : Cf} {X : Cx}
theorem o_eq (A : At g X) : OpB X (compareOp .Eq) dEq := by
  refine ⟨_, OpR.or op_eq (op_eqD A.room.units), fun x y H Q d e k r1 r2 h q => ?_⟩
  unfold dEq at h
  split at h
  · rename_i hf
    cases h
    obtain ⟨h1, h2⟩ := flat_scal hf r1 r2
    exact .inl ⟨h1, by rw [h2]; exact q⟩
  · split at h
    · rename_i hs
      cases h
      exact .inr ⟨toPy d, toPy e, dp_rd r1 (lay_of_shp hs.1), dp_rd r2 (lay_of_shp hs.2), hs.1, hs.2, q⟩
    · cases h
theorem o_ne (A : At g X) : OpB X (compareOp .NotEq) dNe := by
  refine ⟨_, OpR.or op_ne (op_neD A.room.units), fun x y H Q d e k r1 r2 h q => ?_⟩
  unfold dNe dEq at h
  split at h
  · rename_i hf
    cases h
    obtain ⟨h1, h2⟩ := flat_scal hf r1 r2
    exact .inl ⟨h1, by rw [h2]; exact q⟩
  · split at h
    · rename_i hs
      cases h
      exact .inr ⟨toPy d, toPy e, dp_rd r1 (lay_of_shp hs.1), dp_rd r2 (lay_of_shp hs.2), hs.1, hs.2, q⟩
    · cases h
/-! ### order -/
def intsD : List D → Option (List Int)
  | [] => some []
  | .int i :: ds => (intsD ds).map (i :: ·)
  | _ :: _ => none
theorem immL_ints {K : PySem.W.Frag} {H : Hp} : ∀ {ds : List D} {vs : List V} {ns : List Int}, ImmL K H ds vs → intsD ds = some ns → vs = ns.map V.int
  | [], _, _, h, e => by cases (show _ = _ from h); cases e; rfl
  | .int i :: ds, _, ns, ⟨v, r, e1, h1, h2⟩, e => by
    subst e1
    cases (show _ = _ from h1)
    simp only [intsD] at e
    cases hh : intsD ds with
    | none => rw [hh] at e; cases e
    | some ms =>
      rw [hh] at e
      cases e
      rw [List.map_cons, immL_ints h2 hh]
  | .non :: _, _, _, _, e => nomatch e
  | .bl _ :: _, _, _, _, e => nomatch e
  | .str _ :: _, _, _, _, e => nomatch e
  | .tup _ :: _, _, _, _, e => nomatch e
  | .lst _ :: _, _, _, _, e => nomatch e
  | .dic _ :: _, _, _, _, e => nomatch e
  | .scr _ :: _, _, _, _, e => nomatch e
def dLt : D → D → Option Bool
  | .int i, .int j => some (decide (i < j))
  | .str i, .str j => some (decide (i.cps.toList < j.cps.toList))
  | .tup ds, .tup es => match intsD ds, intsD es with
    | some ns, some ms => some (HT.lexLt ns ms)
    | _, _ => none
  | _, _ => none
theorem o_lt (A : At g X) : OpB X (compareOp .Lt) dLt := by
  refine ⟨_, OpR.or op_lt (OpR.or op_lt_str (op_ltT A.room.units0)), fun x y H Q d e k r1 r2 h q => ?_⟩
  cases d <;> cases e <;> simp only [dLt] at h <;> try (cases h; done)
  · cases h; exact .inl ⟨_, _, r1.int, r2.int, q⟩
  · cases h; exact .inr (.inl ⟨_, _, r1.str, r2.str, q⟩)
  · rename_i ds es
    cases h1 : intsD ds with
    | none => rw [h1] at h; cases h
    | some ns =>
      cases h2 : intsD es with
      | none => rw [h1, h2] at h; cases h
      | some ms =>
        rw [h1, h2] at h
        cases h
        obtain ⟨a, vs, e1, s1, i1⟩ := r1.tup
        obtain ⟨b, ws, e2, s2, i2⟩ := r2.tup
        exact .inr (.inr ⟨a, b, ns, ms, e1, e2, by rw [← immL_ints i1 h1]; exact s1.seq, by rw [← immL_ints i2 h2]; exact s2.seq, q⟩)
def dLe : D → D → Option Bool
  | .int i, .int j => some (decide (i ≤ j))
  | _, _ => none
def dGt : D → D → Option Bool
  | .int i, .int j => some (decide (j < i))
  | _, _ => none
def dGe : D → D → Option Bool
  | .int i, .int j => some (decide (j ≤ i))
  | _, _ => none
theorem o_le (A : At g X) : OpB X (compareOp .LtE) dLe := by
  refine ⟨_, op_le, fun x y H Q d e k r1 r2 h q => ?_⟩
  cases d <;> cases e <;> simp only [dLe] at h <;> cases h
  exact ⟨_, _, r1.int, r2.int, q⟩
theorem o_gt (A : At g X) : OpB X (compareOp .Gt) dGt := by
  refine ⟨_, op_gt, fun x y H Q d e k r1 r2 h q => ?_⟩
  cases d <;> cases e <;> simp only [dGt] at h <;> cases h
  exact ⟨_, _, r1.int, r2.int, q⟩
theorem o_ge (A : At g X) : OpB X (compareOp .GtE) dGe := by
  refine ⟨_, op_ge, fun x y H Q d e k r1 r2 h q => ?_⟩
  cases d <;> cases e <;> simp only [dGe] at h <;> cases h
  exact ⟨_, _, r1.int, r2.int, q⟩
/-- is None, is not None -/
def dIsNon : D → Bool
  | .non => true
  | _ => false
def dIsBl (k : Bool) : D → Bool
  | .bl b => b == k
  | _ => false
def dIs (d e : D) : Option Bool := match e with
  | .non => some (dIsNon d)
  | .bl k => some (dIsBl k d)
  | _ => none
def dIsNot (d e : D) : Option Bool := match e with
  | .non => some (!dIsNon d)
  | .bl k => some (!dIsBl k d)
  | _ => none
theorem isNon_of {K : PySem.W.Frag} {H : Hp} {d : D} {x : V} (r : Rd K H d x) : decide (x = .non) = dIsNon d := by
  cases d with
  | non => cases r.non; rfl
  | bl b => cases r.bl; rfl
  | int b => cases r.int; rfl
  | str b => cases r.str; rfl
  | tup ds => obtain ⟨a, vs, e, _⟩ := r.tup; subst e; rfl
  | lst ds => obtain ⟨a, vs, e, _⟩ := r.lst; subst e; rfl
  | dic ds =>
    rcases r with ⟨a, o, e, _⟩ | ⟨a, e, _⟩
    · subst e; rfl
    · subst e; rfl
  | scr ns => obtain ⟨a, e, _⟩ := r.scr; subst e; rfl
def vIsBl (k : Bool) : V → Bool
  | .bl b => b == k
  | _ => false
def okIs : V → Bool
  | .non => true | .bl _ => true | .int _ => true | .str _ => true | .ref _ => true | _ => false
theorem isBl_of {K : PySem.W.Frag} {H : Hp} {d : D} {x : V} {k : Bool} (r : Rd K H d x) : okIs x = true ∧ vIsBl k x = dIsBl k d := by
  cases d with
  | non => cases r.non; exact ⟨rfl, rfl⟩
  | bl b => cases r.bl; exact ⟨rfl, rfl⟩
  | int b => cases r.int; exact ⟨rfl, rfl⟩
  | str b => cases r.str; exact ⟨rfl, rfl⟩
  | tup ds => obtain ⟨a, vs, e, _⟩ := r.tup; subst e; exact ⟨rfl, rfl⟩
  | lst ds => obtain ⟨a, vs, e, _⟩ := r.lst; subst e; exact ⟨rfl, rfl⟩
  | dic ds =>
    rcases r with ⟨a, o, e, _⟩ | ⟨a, e, _⟩
    · subst e; exact ⟨rfl, rfl⟩
    · subst e; exact ⟨rfl, rfl⟩
  | scr ns => obtain ⟨a, e, _⟩ := r.scr; subst e; exact ⟨rfl, rfl⟩
theorem beq_bool (b k : Bool) : (Value.bool b == Value.bool k) = (b == k) := by cases b <;> cases k <;> decide
theorem op_isB : OpR X (compareOp .Is) (fun x y H Q => ∃ k, y = .bl k ∧ okIs x = true ∧ Q (.bl (vIsBl k x)) H) := by
  intro pins s σ H x y v u Q I rx ry h
  obtain ⟨k, rfl, ho, q⟩ := h
  cases ry
  cases x with
  | non => cases rx; exact wpAny_is_plain rfl (fin_bl I q (by cases k <;> rfl))
  | bl b => cases rx; exact wpAny_is_plain rfl (fin_bl I q (beq_bool b k).symm)
  | int b => obtain ⟨t, rfl⟩ := rx; exact wpAny_is_plain rfl (fin_bl I q (by cases k <;> rfl))
  | str b => obtain ⟨t, rfl⟩ := rx; exact wpAny_is_plain rfl (fin_bl I q (by cases k <;> rfl))
  | ref b => cases rx; exact wpAny_is_plain rfl (fin_bl I q (by cases k <;> rfl))
  | _ => cases ho
theorem op_isNotB : OpR X (compareOp .IsNot) (fun x y H Q => ∃ k, y = .bl k ∧ okIs x = true ∧ Q (.bl (!vIsBl k x)) H) := by
  intro pins s σ H x y v u Q I rx ry h
  obtain ⟨k, rfl, ho, q⟩ := h
  cases ry
  cases x with
  | non => cases rx; exact wpAny_isNot_plain rfl (fin_bl I q (by cases k <;> rfl))
  | bl b => cases rx; exact wpAny_isNot_plain rfl (fin_bl I q (by rw [beq_bool] <;> rfl))
  | int b => obtain ⟨t, rfl⟩ := rx; exact wpAny_isNot_plain rfl (fin_bl I q (by cases k <;> rfl))
  | str b => obtain ⟨t, rfl⟩ := rx; exact wpAny_isNot_plain rfl (fin_bl I q (by cases k <;> rfl))
  | ref b => cases rx; exact wpAny_isNot_plain rfl (fin_bl I q (by cases k <;> rfl))
  | _ => cases ho
theorem o_is (A : At g X) : OpB X (compareOp .Is) dIs := by
  refine ⟨_, OpR.or op_isN op_isB, fun x y H Q d e k r1 r2 h q => ?_⟩
  cases e <;> simp only [dIs] at h <;> cases h
  · exact .inl ⟨r2.non, by rw [isNon_of r1]; exact q⟩
  · obtain ⟨o1, o2⟩ := isBl_of r1
    exact .inr ⟨_, r2.bl, o1, by rw [o2]; exact q⟩
theorem o_isnot (A : At g X) : OpB X (compareOp .IsNot) dIsNot := by
  refine ⟨_, OpR.or op_notN op_isNotB, fun x y H Q d e k r1 r2 h q => ?_⟩
  cases e <;> simp only [dIsNot] at h <;> cases h
  · exact .inl ⟨r2.non, by rw [isNon_of r1]; exact q⟩
  · obtain ⟨o1, o2⟩ := isBl_of r1
    exact .inr ⟨_, r2.bl, o1, by rw [o2]; exact q⟩
/-! ### arithmetic -/
def dAdd : D → D → Option S
  | .int a, .int b => some (.v (.int (a + b)))
  | .str a, .str b => if a.length + b.length ≤ 16777216 then some (.v (.str (a ++ b))) else none
  | .tup a, .tup b => if a.length + b.length ≤ 16777216 then some (.v (.tup (a ++ b))) else none
  | .lst a, .lst b => if a.length + b.length ≤ 16777216 then some (.o (.lst (a ++ b))) else none
  | _, _ => none
def rCatL : R2 := fun x y H Q => ∃ l b xs zs, x = .ref l ∧ y = .ref b ∧ L2.Rd H l (.lst xs) ∧ L2.Rd H b (.lst zs) ∧ xs.length + zs.length ≤ sizeLine ∧ ∀ p, H p = none → Q (.ref p) (upd H p (.lst (xs ++ zs)))
theorem lstR {pins : List (Addr × Obj)} {σ : L2.St} {H : Hp} {s : Shared} {l : Addr} {xs : List V} (I : Inv X pins σ H s) (h : L2.Rd H l (.lst xs)) :
    xs.length ≤ sizeLine ∧ ∃ (its : List Value) (n : Nat), Vals xs its ∧ xs.length = its.length ∧ s.heap.get? l = some { cls := .type "list", data := .seq its.toArray n } := by
  obtain ⟨z, its, n, r, e⟩ := h.ok I.hok
  exact ⟨z, its, n, r, r.length, e⟩
theorem op_catL : OpR X (binaryOp .Add) rCatL := by
  intro pins s σ H x y v u Q I rx ry h
  obtain ⟨l, b, xs, zs, rfl, rfl, hH, hB, hz, q⟩ := h
  cases rx
  cases ry
  obtain ⟨z, its, n, r, hl, e⟩ := lstR I hH
  obtain ⟨z2, its2, n2, r2, hl2, e2⟩ := lstR I hB
  refine PySem.P.add_list e e2 ?_ (by rw [List.size_toArray, List.size_toArray]; omega)
  have ea : its.toArray ++ its2.toArray = (its ++ its2).toArray := by simp
  rw [ea]
  exact ⟨.ref _, _, I.lnew (t' := s.toks) (r.append r2) (by rw [List.length_append]; omega), rfl, q _ I.fresh⟩
theorem o_add (A : At g X) : Op2 X (binaryOp .Add) dAdd := by
  refine ⟨_, OpR.or op_add (OpR.or op_add_str (OpR.or op_catA op_catL)), fun x y H Q d e s r1 r2 h q => ?_⟩
  cases d <;> cases e <;> simp only [dAdd] at h <;> try (cases h; done)
  · cases h; exact .inl ⟨_, _, r1.int, r2.int, q _ H (Same.refl H) rfl⟩
  · split at h
    · rename_i hz
      cases h
      exact .inr (.inl ⟨_, _, r1.str, r2.str, line_le hz, q _ H (Same.refl H) rfl⟩)
    · cases h
  · split at h
    · rename_i hz
      cases h
      obtain ⟨a, vs, e1, s1, i1⟩ := r1.tup
      obtain ⟨b, ws, e2, s2, i2⟩ := r2.tup
      refine .inr (.inr (.inl ⟨a, b, vs, ws, e1, e2, s1.seq, s2.seq, line_le (by rw [i1.len, i2.len]; exact hz), fun e => ?_, fun e e' => ?_, fun e e' p hp => ?_⟩))
      · have := i1.none_iff.mp e
        subst this
        exact q _ H (Same.refl H) ⟨b, ws, rfl, s2, i2⟩
      · have := i2.none_iff.mp e'
        subst this
        rw [List.append_nil] at q
        exact q _ H (Same.refl H) ⟨a, vs, rfl, s1, i1⟩
      · exact q _ _ (new_tup (K := X.K) hp) ⟨p, _, rfl, TpT.of upd_same, ImmL.ext (Ext.of_same (new_tup (K := X.K) hp)) _ _ (i1.append i2)⟩
    · cases h
  · split at h
    · rename_i hz
      cases h
      obtain ⟨a, vs, e1, s1, i1⟩ := r1.lstR
      obtain ⟨b, ws, e2, s2, i2⟩ := r2.lstR
      refine .inr (.inr (.inr ⟨a, b, vs, ws, e1, e2, s1, s2, line_le (by rw [i1.len, i2.len]; exact hz), fun p hp => ?_⟩))
      exact q _ _ (new_tup (K := X.K) hp) ⟨p, rfl, hp, _, upd_same, ImmL.ext (Ext.of_same (new_tup (K := X.K) hp)) _ _ (i1.append i2)⟩
    · cases h
def dSub : D → D → Option S
  | .int a, .int b => some (.v (.int (a - b)))
  | _, _ => none
theorem o_sub (A : At g X) : Op2 X (binaryOp .Sub) dSub := by
  refine ⟨_, op_sub, fun x y H Q d e s r1 r2 h q => ?_⟩
  cases d <;> cases e <;> simp only [dSub] at h <;> cases h
  exact ⟨_, _, r1.int, r2.int, q _ H (Same.refl H) rfl⟩
/-- the sizes at which * is served -/
def mulOk (a b : Int) : Prop := a.natAbs < 18446744073709551616 ∨ b.natAbs < 18446744073709551616 ∨ a.natAbs.log2 + b.natAbs.log2 < 1000000
instance (a b : Int) : Decidable (mulOk a b) := by unfold mulOk; infer_instance
def dMul : D → D → Option S
  | .int a, .int b => if mulOk a b then some (.v (.int (a * b))) else none
  | .lst a, .int k => if a.length * k.toNat ≤ 16777216 ∧ -9223372036854775808 ≤ k ∧ k < 9223372036854775808 then some (.o (.lst (List.replicate k.toNat a).flatten)) else none
  | .tup a, .int k => if 0 < a.length ∧ a.length ≤ 1000 ∧ 2 ≤ k ∧ k ≤ 1000 then some (.v (.tup (List.replicate k.toNat a).flatten)) else none
  | _, _ => none
theorem immL_rep {K : PySem.W.Frag} {H : Hp} {ds : List D} {vs : List V} (h : ImmL K H ds vs) : ∀ k : Nat, ImmL K H (List.replicate k ds).flatten (List.replicate k vs).flatten
  | 0 => rfl
  | k + 1 => by
    rw [List.replicate_succ, List.replicate_succ, List.flatten_cons, List.flatten_cons]
    exact h.append (immL_rep h k)
def rRepL : R2 := fun x y H Q => ∃ l k xs, x = .ref l ∧ y = .int k ∧ L2.Rd H l (.lst xs) ∧ -(2 ^ 63) ≤ k ∧ k < 2 ^ 63 ∧ xs.length * k.toNat ≤ sizeLine ∧
  ∀ p, H p = none → Q (.ref p) (upd H p (.lst (List.replicate k.toNat xs).flatten))
end
end PL

namespace PL
open PySem PySem.Spec PyProof.Rows L2
section
variable {g : Cf} {X : Cx}
theorem op_repL : OpR X (binaryOp .Mult) rRepL := by
  intro pins s σ H x y v u Q I rx ry h
  obtain ⟨l, k, xs, rfl, rfl, hH, h1, h2, hz, q⟩ := h
  cases rx
  obtain ⟨t, rfl⟩ := ry
  obtain ⟨z, its, n, r, hl, e⟩ := lstR I hH
  have hlen : its.toArray.size * k.toNat ≤ sizeLine := by rw [List.size_toArray, ← hl]; exact hz
  have hcap : ¬ its.toArray.size * k.toNat > (2 ^ 63 - 1) / 8 := by
    have : (sizeLine : Nat) ≤ (2 ^ 63 - 1) / 8 := by decide
    omega
  have hfit : ¬ (!Builtin.List.listFitsIndex k) = true := by
    rw [fitsIndex_both h1 h2]
    exact Bool.false_ne_true
  have hlong : ¬ Builtin.List.listTooLong (its.toArray.size * k.toNat) = true := by
    rw [notLongL hlen]
    exact Bool.false_ne_true
  have hnew : List.foldl (fun x1 x2 => x1 ++ x2) #[] (List.replicate (if its.toArray.isEmpty = true then 0 else k.toNat) its.toArray) = (List.replicate k.toNat its).flatten.toArray := by
    have f0 : ∀ m : Nat, List.foldl (fun x1 x2 => x1 ++ x2) #[] (List.replicate m its.toArray) = (List.replicate m its).flatten.toArray := fun m => by
      have := foldl_rep its m []
      rw [List.nil_append] at this
      exact this
    rw [f0]
    cases its with
    | nil => simp
    | cons a r' => rw [if_neg (by simp)]
  refine wpAny_binaryOp_repeat_ref (T := "list") (U := "int") (by decide) ⟨_, e, rfl⟩ (fun s' => typeIs_int s' k t) noFill_list_mul F.fills_int_mul F.slot_int_rmul repeat_list F.slot_int_index.lookup
    (call_meets F.slot_int_rmul (typeIs_int s k t) F.entry_int_rmul (F.args_int_rmul_2 _ _) (int___rmul___int_list k t l its.toArray n)
      ⟨e, rfl, ⟨_, e, rfl⟩, call_meets F.slot_list_mul ⟨_, e, rfl⟩ F.entry_list_mul (F.args_list_mul_2 _ _) (AutoListH.list___mul___list_int_3 l its.toArray n k t hfit hcap hlong) ⟨e, ?_⟩⟩)
  rw [hnew]
  exact ⟨.ref _, _, I.lnew (t' := s.toks) (r.rep k.toNat) (by rw [PyProof.Rows.lm_len_rep_flat, Nat.mul_comm]; exact hz), rfl, q _ I.fresh⟩
theorem mulOk.cm {i j : Int} (h : mulOk i j) : CMul i j ∨ CMulW i j := by
  rcases h with h | h | h
  · exact .inl (.inl ⟨by omega, by omega⟩)
  · exact .inl (.inr ⟨by omega, by omega⟩)
  · exact .inr h
theorem o_mul (A : At g X) : Op2 X (binaryOp .Mult) dMul := by
  refine ⟨_, OpR.or op_mul (OpR.or op_mulW (OpR.or op_repL op_repT)), fun x y H Q d e s r1 r2 h q => ?_⟩
  cases d <;> cases e <;> simp only [dMul] at h <;> try (cases h; done)
  · split at h
    · rename_i hz
      cases h
      rcases hz.cm with hc | hc
      · exact .inl ⟨_, _, r1.int, r2.int, hc, q _ H (Same.refl H) rfl⟩
      · exact .inr (.inl ⟨_, _, r1.int, r2.int, hc, q _ H (Same.refl H) rfl⟩)
    · cases h
  · split at h
    · rename_i hz
      cases h
      obtain ⟨a, vs, e1, s1, i1⟩ := r1.tup
      refine .inr (.inr (.inr ⟨a, _, vs, e1, r2.int, s1.seq, fun e => ?_, hz.2.2.1, hz.2.2.2, by rw [i1.len]; exact hz.2.1, fun p hp => ?_⟩))
      · have := i1.none_iff.mp e
        subst this
        exact absurd hz.1 (by simp)
      · exact q _ _ (new_tup (K := X.K) hp) ⟨p, _, rfl, TpT.of upd_same, ImmL.ext (Ext.of_same (new_tup (K := X.K) hp)) _ _ (immL_rep i1 _)⟩
    · cases h
  · split at h
    · rename_i hz
      cases h
      obtain ⟨a, vs, e1, s1, i1⟩ := r1.lstR
      refine .inr (.inr (.inl ⟨a, _, vs, e1, r2.int, s1, hz.2.1, hz.2.2, line_le (by rw [i1.len]; exact hz.1), fun p hp => ?_⟩))
      exact q _ _ (new_tup (K := X.K) hp) ⟨p, rfl, hp, _, upd_same, ImmL.ext (Ext.of_same (new_tup (K := X.K) hp)) _ _ (immL_rep i1 _)⟩
    · cases h
def dDiv : D → D → Option S
  | .int a, .int b => if 0 < b ∧ b.natAbs.log2 < 9000 then some (.v (.int (a / b))) else if b ≠ 0 ∧ b.natAbs < 1073741824 then some (.v (.int (a.fdiv b))) else none
  | _, _ => none
theorem o_div (A : At g X) : Op2 X (binaryOp .FloorDiv) dDiv := by
  refine ⟨_, OpR.or op_fdivW op_fdivN, fun x y H Q d e s r1 r2 h q => ?_⟩
  cases d <;> cases e <;> simp only [dDiv] at h <;> try (cases h; done)
  split at h
  · rename_i hz
    cases h
    exact .inl ⟨_, _, r1.int, r2.int, hz, q _ H (Same.refl H) rfl⟩
  · split at h
    · rename_i hz
      cases h
      exact .inr ⟨_, _, r1.int, r2.int, hz, q _ H (Same.refl H) rfl⟩
    · cases h
def dMod : D → D → Option S
  | .int a, .int b => if 0 < b then some (.v (.int (a % b))) else if b ≠ 0 then some (.v (.int (a.fmod b))) else none
  | _, _ => none
theorem o_mod (A : At g X) : Op2 X (binaryOp .Mod) dMod := by
  refine ⟨_, OpR.or op_mod op_modN, fun x y H Q d e s r1 r2 h q => ?_⟩
  cases d <;> cases e <;> simp only [dMod] at h <;> try (cases h; done)
  split at h
  · rename_i hz
    cases h
    exact .inl ⟨_, _, r1.int, r2.int, hz, q _ H (Same.refl H) rfl⟩
  · split at h
    · rename_i hz
      cases h
      exact .inr ⟨_, _, r1.int, r2.int, hz, q _ H (Same.refl H) rfl⟩
    · cases h
def dPow : D → D → Option S
  | .int a, .int b => if 0 ≤ b ∧ b ≤ 1000000 ∧ a.natAbs < 18446744073709551616 then some (.v (.int (a ^ b.toNat))) else none
  | _, _ => none
theorem o_pow (A : At g X) : Op2 X (binaryOp .Pow) dPow := by
  refine ⟨_, op_pow, fun x y H Q d e s r1 r2 h q => ?_⟩
  cases d <;> cases e <;> simp only [dPow] at h <;> try (cases h; done)
  split at h
  · rename_i hz
    cases h
    exact ⟨_, _, r1.int, r2.int, hz, q _ H (Same.refl H) rfl⟩
  · cases h
def dShl : D → D → Option S
  | .int a, .int b => if 0 ≤ b ∧ b ≤ 1000000 ∧ a.natAbs < 18446744073709551616 then some (.v (.int (a * 2 ^ b.toNat))) else none
  | _, _ => none
theorem o_shl (A : At g X) : Op2 X (binaryOp .LShift) dShl := by
  refine ⟨_, op_shl, fun x y H Q d e s r1 r2 h q => ?_⟩
  cases d <;> cases e <;> simp only [dShl] at h <;> try (cases h; done)
  split at h
  · rename_i hz
    cases h
    exact ⟨_, _, r1.int, r2.int, hz, q _ H (Same.refl H) rfl⟩
  · cases h
def dShr : D → D → Option S
  | .int a, .int b => if 0 ≤ b then some (.v (.int (a / 2 ^ b.toNat))) else none
  | _, _ => none
theorem o_shr (A : At g X) : Op2 X (binaryOp .RShift) dShr := by
  refine ⟨_, op_shr, fun x y H Q d e s r1 r2 h q => ?_⟩
  cases d <;> cases e <;> simp only [dShr] at h <;> try (cases h; done)
  split at h
  · rename_i hz
    cases h
    exact ⟨_, _, r1.int, r2.int, hz, q _ H (Same.refl H) rfl⟩
  · cases h
def dBand : D → D → Option S
  | .int a, .int b => some (.v (.int (Builtin.bitAnd a b)))
  | _, _ => none
theorem o_band (A : At g X) : Op2 X (binaryOp .BitAnd) dBand := by
  refine ⟨_, op_and, fun x y H Q d e s r1 r2 h q => ?_⟩
  cases d <;> cases e <;> simp only [dBand] at h <;> cases h
  exact ⟨_, _, r1.int, r2.int, q _ H (Same.refl H) rfl⟩
def dBor : D → D → Option S
  | .int a, .int b => some (.v (.int (Builtin.bitOr a b)))
  | _, _ => none
theorem o_bor (A : At g X) : Op2 X (binaryOp .BitOr) dBor := by
  refine ⟨_, op_or, fun x y H Q d e s r1 r2 h q => ?_⟩
  cases d <;> cases e <;> simp only [dBor] at h <;> cases h
  exact ⟨_, _, r1.int, r2.int, q _ H (Same.refl H) rfl⟩
def dBxor : D → D → Option S
  | .int a, .int b => some (.v (.int (Builtin.bitXor a b)))
  | _, _ => none
theorem o_bxor (A : At g X) : Op2 X (binaryOp .BitXor) dBxor := by
  refine ⟨_, op_xor, fun x y H Q d e s r1 r2 h q => ?_⟩
  cases d <;> cases e <;> simp only [dBxor] at h <;> cases h
  exact ⟨_, _, r1.int, r2.int, q _ H (Same.refl H) rfl⟩
def dNeg : D → Option S
  | .int a => some (.v (.int (-a)))
  | _ => none
theorem o_neg (A : At g X) : ∃ r, UnR X (unaryOp .USub) r ∧ Un1 X r dNeg := by
  refine ⟨_, un_neg, fun x H Q d s r1 h q => ?_⟩
  cases d <;> simp only [dNeg] at h <;> cases h
  exact ⟨_, r1.int, q _ H (Same.refl H) rfl⟩
/-! ### in -/
def keyOf : D → Option (Sum Key (List Key))
  | .int i => some (.inl (.inl i))
  | .str x => some (.inl (.inr x))
  | .tup ds => (keysD ds).map .inr
  | _ => none
/-- the value at a key -/
def dicGet (kvs : List (D × D)) (k : D) : Option D := (kvs.find? fun kv => eqD kv.1 k).map (·.2)
def strIn (a b : Str) : Bool := !(Builtin.Str.occurrences b a 0 b.length 1).isEmpty
def inL (d : D) (es : List D) : Option Bool := if shp d = true ∧ PyData.canLayAll0 (toPyL es) = true then some (es.any fun e => eqD e d) else none
def dIn : D → D → Option Bool
  | .str a, .str b => some (strIn a b)
  | d, .tup es => inL d es
  | d, .lst es => inL d es
  | _, _ => none
def dNotIn (d e : D) : Option Bool := (dIn d e).map (!·)
theorem any_toPyL (d : D) : ∀ es : List D, ((toPyL es).any fun y => PyData.eqv y (toPy d)) = es.any fun e => eqD e d
  | [] => rfl
  | e :: es => by
    show (PyData.eqv (toPy e) (toPy d) || (toPyL es).any fun y => PyData.eqv y (toPy d)) = _
    rw [any_toPyL d es]; rfl
def rInS (K : PySem.W.Frag) (neg : Bool) : R2 := fun x y H Q => ∃ d ds, Dp K H x d ∧ (Dp K H y (.list ds) ∨ Dp K H y (.tuple ds)) ∧ SeqAt.shaped d = true ∧ PyData.canLayAll0 ds = true ∧ Q (.bl (if neg then !(ds.any fun z => PyData.eqv z d) else ds.any fun z => PyData.eqv z d)) H
theorem room_in {d : PyData} {ds : List PyData} (h : SeqAt.shaped d = true) (A : At g X) : X.A.units + 1 + min (PyData.depthAll ds) d.depth < cLine := by
  have h1 := SeqAt.depth_of_shaped h
  have h2 := Nat.min_le_right (PyData.depthAll ds) d.depth
  have h3 := A.room.un
  omega
theorem op_inS (A : At g X) : OpR X (compareOp .In) (rInS X.K false) := by
  intro pins s σ H x y v u Q I rx ry h
  obtain ⟨d, ds, hd, he, sd, se, q⟩ := h
  obtain ⟨as, r1⟩ := Dp.reads I d x v hd rx
  rcases he with he | he
  · obtain ⟨bs, r2⟩ := Dp.reads I (.list ds) y u he ry
    exact SeqAt.in_list_reads r2 r1 se (SeqAt.canLay_of_shaped sd) (room_in sd A) ⟨.bl _, H, I, rfl, q⟩
  · obtain ⟨bs, r2⟩ := Dp.reads I (.tuple ds) y u he ry
    exact SeqAt.in_tuple_reads r2 r1 se (SeqAt.canLay_of_shaped sd) (room_in sd A) ⟨.bl _, H, I, rfl, q⟩
theorem op_notInS (A : At g X) : OpR X (compareOp .NotIn) (rInS X.K true) := by
  intro pins s σ H x y v u Q I rx ry h
  obtain ⟨d, ds, hd, he, sd, se, q⟩ := h
  obtain ⟨as, r1⟩ := Dp.reads I d x v hd rx
  rcases he with he | he
  · obtain ⟨bs, r2⟩ := Dp.reads I (.list ds) y u he ry
    exact SeqAt.notIn_list_reads r2 r1 se (SeqAt.canLay_of_shaped sd) (room_in sd A) ⟨.bl _, H, I, rfl, q⟩
  · obtain ⟨bs, r2⟩ := Dp.reads I (.tuple ds) y u he ry
    exact SeqAt.notIn_tuple_reads r2 r1 se (SeqAt.canLay_of_shaped sd) (room_in sd A) ⟨.bl _, H, I, rfl, q⟩
theorem inS_of {K : PySem.W.Frag} {H : Hp} {d e : D} {x y : V} {es : List D} {k : Bool} (he : e = .tup es ∨ e = .lst es) (r1 : Rd K H d x) (r2 : Rd K H e y) (h : inL d es = some k) :
    ∃ dd ds, Dp K H x dd ∧ (Dp K H y (.list ds) ∨ Dp K H y (.tuple ds)) ∧ SeqAt.shaped dd = true ∧ PyData.canLayAll0 ds = true ∧ (ds.any fun z => PyData.eqv z dd) = k := by
  unfold inL at h
  split at h
  · rename_i hz
    cases h
    refine ⟨toPy d, toPyL es, dp_rd r1 (lay_of_shp hz.1), ?_, hz.1, hz.2, any_toPyL d es⟩
    rcases he with rfl | rfl
    · exact .inr (dp_rd r2 (by simpa [toPy, PyData.canLay0] using hz.2))
    · exact .inl (dp_rd r2 (by simpa [toPy, PyData.canLay0] using hz.2))
  · cases h
def rInD2 (neg : Bool) : R2 := fun y x H Q => ∃ a o, x = .ref a ∧ DGet H a y o ∧ Q (.bl (if neg then !o.isSome else o.isSome)) H
theorem op_inDic (A : At g X) : OpR X (compareOp .In) (rInD2 false) := by
  intro pins s σ H y x iv u Q I ry rx h
  obtain ⟨a, o, ex, hg, q⟩ := h
  subst ex
  obtain rfl : u = Value.ref a := rx
  exact d_in (by have := A.room.un; omega) I hg ry fun s3 I3 => ⟨.bl o.isSome, H, I3, rfl, q⟩
theorem op_notInDic (A : At g X) : OpR X (compareOp .NotIn) (rInD2 true) := by
  intro pins s σ H y x iv u Q I ry rx h
  obtain ⟨a, o, ex, hg, q⟩ := h
  subst ex
  obtain rfl : u = Value.ref a := rx
  exact d_notIn (by have := A.room.un; omega) I hg ry fun s3 I3 => ⟨.bl (!o.isSome), H, I3, rfl, q⟩
theorem o_in (A : At g X) : OpB X (compareOp .In) dIn := by
  refine ⟨_, OpR.or op_in_str (op_inS A), fun x y H Q d e k r1 r2 h q => ?_⟩
  have key : ∀ es, (e = .tup es ∨ e = .lst es) → inL d es = some k → rInS X.K false x y H Q := fun es he hk => by
    obtain ⟨dd, ds, h1, h2, h3, h4, h5⟩ := inS_of he r1 r2 hk
    exact ⟨dd, ds, h1, h2, h3, h4, by rw [h5]; exact q⟩
  cases e with
  | tup es => exact .inr (key es (.inl rfl) (by cases d <;> exact h))
  | lst es => exact .inr (key es (.inr rfl) (by cases d <;> exact h))
  | str b =>
    cases d with
    | str a => cases h; exact .inl ⟨_, _, r1.str, r2.str, q⟩
    | _ => cases h
  | _ => cases d <;> cases h
theorem o_notin (A : At g X) : OpB X (compareOp .NotIn) dNotIn := by
  refine ⟨_, OpR.or op_notin_str (op_notInS A), fun x y H Q d e k r1 r2 h q => ?_⟩
  unfold dNotIn at h
  have key : ∀ es, (e = .tup es ∨ e = .lst es) → (inL d es).map (!·) = some k → rInS X.K true x y H Q := fun es he hk => by
    cases hi : inL d es with
    | none => rw [hi] at hk; cases hk
    | some k' =>
      rw [hi] at hk
      cases hk
      obtain ⟨dd, ds, h1, h2, h3, h4, h5⟩ := inS_of he r1 r2 hi
      exact ⟨dd, ds, h1, h2, h3, h4, by rw [h5]; exact q⟩
  cases e with
  | tup es => exact .inr (key es (.inl rfl) (by cases d <;> exact h))
  | lst es => exact .inr (key es (.inr rfl) (by cases d <;> exact h))
  | str b =>
    cases d with
    | str a => cases h; exact .inl ⟨_, _, r1.str, r2.str, q⟩
    | _ => cases h
  | _ => cases d <;> cases h
end
end PL

namespace PL
open PySem PySem.Spec PyProof.Rows L2
/-! ### subscripts -/
theorem immL_atI {K : PySem.W.Frag} {H : Hp} {ds : List D} {vs : List V} {i : Int} {d : D} (h : ImmL K H ds vs) (e : atI ds i = some d) : ∃ v, atI vs i = some v ∧ Imm K H d v := by
  unfold atI at e ⊢
  rw [h.len]
  cases hi : ixN ds.length i with
  | none => rw [hi] at e; cases e
  | some j =>
    rw [hi] at e
    exact h.get' e
def dIx : D → D → Option S
  | .tup ds, .int i => (atI ds i).map .v
  | .lst ds, .int i => (atI ds i).map .v
  | .scr ns, .int i => (atI ns i).map fun n => .v (.int n)
  | .str z, .int i => if z.length ≤ 16777216 then (atI z.cps.toList i).map fun c => .v (.str ⟨#[c]⟩) else none
  | _, _ => none
theorem atI_map {α β : Type} (f : α → β) (xs : List α) (i : Int) : atI (xs.map f) i = (atI xs i).map f := by
  unfold atI
  rw [List.length_map]
  cases ixN xs.length i with
  | none => rfl
  | some j => simp
section
variable {g : Cf} {X : Cx} {e a b c : Expr} {es : List Expr} {pos : Pos}
theorem read_ix {x y : V} {H : Hp} {Q : VK} {d1 d2 : D} {s : S} (r1 : Rd X.K H d1 x) (r2 : Rd X.K H d2 y) (h : dIx d1 d2 = some s) (q : ∀ z H', Same H H' → RS X.K H H' s z → Q z H') : rIx X.K x y H Q := by
  cases d1 <;> cases d2 <;> simp only [dIx] at h <;> try (cases h; done)
  · split at h
    · rename_i z i hz
      cases he : atI z.cps.toList i with
      | none => rw [he] at h; cases h
      | some c =>
        rw [he] at h
        cases h
        exact .inr (.inr ⟨z, i, c, r1.str, r2.int, line_le hz, he, q _ H (Same.refl H) rfl⟩)
    · cases h
  · rename_i ds i
    obtain ⟨a, vs, e1, s1, i1⟩ := r1.tup
    cases he : atI ds i with
    | none => rw [he] at h; cases h
    | some d =>
      rw [he] at h
      cases h
      obtain ⟨v, hv, im⟩ := immL_atI i1 he
      exact .inr (.inl ⟨a, vs, i, v, e1, r2.int, s1.seq, hv, q _ H (Same.refl H) im⟩)
  · rename_i ds i
    obtain ⟨a, vs, e1, s1, i1⟩ := r1.lst
    cases he : atI ds i with
    | none => rw [he] at h; cases h
    | some d =>
      rw [he] at h
      cases h
      obtain ⟨v, hv, im⟩ := immL_atI i1 he
      exact .inl ⟨a, vs, i, v, e1, r2.int, s1, hv, q _ H (Same.refl H) im⟩
  · rename_i ns i
    obtain ⟨a, e1, s1⟩ := r1.scr
    cases he : atI ns i with
    | none => rw [he] at h; cases h
    | some d =>
      rw [he] at h
      cases h
      exact .inl ⟨a, _, i, .int d, e1, r2.int, s1, by rw [atI_map, he]; rfl, q _ H (Same.refl H) rfl⟩
theorem e_ix {fa fb : Ex} (ha : EOk g a fa) (hb : EOk g b fb) (hs : PlainIx b := by intro _ _; rfl) : EOk g (.Subscript a b pos) (e2 dIx fa fb) := fun X W A tk =>
  PE.imp (pe_ix ix_seq (ha.n A tk) (hb.n A tk) hs) fun σ H Q t => read2 (fun x y H Q d1 d2 s r1 r2 h q => read_ix r1 r2 h q) t
/-! ### slices -/
def cutG {α : Type} (xs : List α) (lo hi : Option Int) : List α := (xs.drop (HT.sIx xs.length 0 lo)).take (HT.sIx xs.length xs.length hi - HT.sIx xs.length 0 lo)
theorem immL_cut {K : PySem.W.Frag} {H : Hp} {ds : List D} {vs : List V} (h : ImmL K H ds vs) (lo hi : Option Int) : ImmL K H (cutG ds lo hi) (cutV vs lo hi) := by
  unfold cutG cutV
  rw [h.len]
  exact (h.drop _).take _
theorem cut_whole {α : Type} (xs : List α) (lo hi : Option Int) (h : HT.sIx xs.length 0 lo = 0 ∧ HT.sIx xs.length xs.length hi = xs.length) : cutG xs lo hi = xs := by
  unfold cutG
  rw [h.1, h.2]
  simp
theorem cutV_map {α : Type} (f : α → V) (xs : List α) (lo hi : Option Int) : cutV (xs.map f) lo hi = (cutG xs lo hi).map f := by
  unfold cutG cutV
  rw [List.length_map, List.map_take, List.map_drop]
def dSl : D → Option Int → Option Int → Option S
  | .tup ds, lo, hi => some (.v (.tup (cutG ds lo hi)))
  | .lst ds, lo, hi => some (.o (.lst (cutG ds lo hi)))
  | .scr ns, lo, hi => some (.o (.lst ((cutG ns lo hi).map .int)))
  | .str z, lo, hi => if z.length ≤ 16777216 then some (.v (.str (cutS z lo hi))) else none
  | _, _, _ => none
theorem immL_map_int {K : PySem.W.Frag} {H : Hp} : ∀ ns : List Int, ImmL K H (ns.map .int) (ns.map V.int)
  | [] => rfl
  | n :: ns => ⟨_, _, rfl, rfl, immL_map_int ns⟩
abbrev Px := Rho → Out (Option Int × Rho)
def tP (K : PySem.W.Frag) (g : Cf) (f : Px) (W : WX) : L2.TO := fun σ H Q => ∃ ρ, ER K g ρ σ H ∧ Pst K g σ H W (fun p H' => ER K g p.2 σ H' → Q p.1 H') (f ρ)
def POk (g : Cf) (e : Option Expr) (f : Px) : Prop := ∀ (X : Cx) (W : WX), At g X → Takes X W → L2.PO X e (tP X.K g f W)
theorem PO.imp {X : Cx} {e : Option Expr} {t t' : L2.TO} (h : L2.PO X e t) (hi : ∀ σ H Q, t' σ H Q → t σ H Q) : L2.PO X e t' := ⟨fun pins s σ H Q I q => h.run pins s σ H Q I (hi σ H Q q)⟩
def pNo : Px := fun ρ => .ok (none, ρ)
def dInt : D → Option Int
  | .int i => some i
  | _ => none
def pSo (f : Ex) : Px := fun ρ => f ρ >>= fun p => pk p.2 p.1 >>= fun d => liftO (dInt d) >>= fun i => .ok (some i, p.2)
theorem p_no : POk g none pNo := fun X W A tk => PO.imp po_none fun σ H Q ⟨ρ, R, q⟩ => q H (Ext.refl H) R
theorem p_so {f : Ex} (h : EOk g e f) : POk g (some e) (pSo f) := fun X W A tk => by
  refine PO.imp (po_some (h.n A tk)) fun σ H Q ⟨ρ, R, q⟩ => tN_step R q fun s1 ρ1 x H1 R1 E1 n1 q1 => ?_
  obtain ⟨d1, h1, q3⟩ := q1.pk
  obtain ⟨i, ho, q5⟩ := q3.opt
  have rd := pk_rd n1 R1 (Ext.refl _) h1
  cases d1 <;> simp only [dInt] at ho <;> cases ho
  exact ⟨i, rd.int, q5 H1 (Ext.refl _) R1⟩
theorem tP_step {K : PySem.W.Frag} {σ : L2.St} {H : Hp} {W : WX} {β : Type} {G : β → Hp → Prop} {ρ : Rho} {fa : Px} {k : Option Int × Rho → Out β} {Q : Option Int → Hp → Prop} (R : ER K g ρ σ H) (q : Pst K g σ H W G (fa ρ >>= k))
    (h : ∀ s ρ1 H1, ER K g ρ1 σ H1 → Ext H H1 → Pst K g σ H1 W G (k (s, ρ1)) → Q s H1) : tP K g fa W σ H Q := by
  refine ⟨ρ, R, ?_⟩
  cases ha : fa ρ with
  | stuck => rw [ha] at q; exact q.elim
  | exc c ρ1 => rw [ha] at q; exact q
  | ok p =>
    rw [ha] at q
    exact fun H1 E1 R1 => h p.1 p.2 H1 R1 E1 (Pst.ext E1 (r := k p) q)
def eSl (f : Ex) (lo hi : Px) : Ex := fun ρ => f ρ >>= fun p => lo p.2 >>= fun q => hi q.2 >>= fun r => pk r.2 p.1 >>= fun d => liftO (dSl d q.1 r.1) >>= fun s => .ok (s, r.2)
theorem e_sl {lo hi : Option Expr} {f : Ex} {fl fh : Px} {p2 : Pos} (h : EOk g e f) (hl : POk g lo fl) (hh : POk g hi fh) : EOk g (.Subscript e (.Slice lo hi none p2) pos) (eSl f fl fh) := fun X W A tk => by
  refine PE.imp (pe_slice (SlR.or sl_list (SlR.or sl_tupA sl_str)) (h.n A tk) (hl X W A tk) (hh X W A tk)) fun σ H Q ⟨ρ, R, q⟩ => ?_
  refine tN_step R q fun s1 ρ1 x H1 R1 E1 n1 q1 => tP_step R1 q1 fun l ρ2 H2 R2 E2 q2 => tP_step R2 q2 fun u ρ3 H3 R3 E3 q3 => ?_
  obtain ⟨d, h1, q4⟩ := q3.pk
  obtain ⟨s, ho, q5⟩ := q4.opt
  have rd := pk_rd n1 R3 (E2.trans E3) h1
  have fin : ∀ z H', Same H3 H' → RS X.K H3 H' s z → Q z H' := fun z H' sm rs => q5 H' (Ext.of_same sm) (R3.same sm) z (rs.sr R3)
  cases d <;> simp only [dSl] at ho <;> try (cases ho; done)
  · split at ho
    · rename_i z hz
      cases ho
      exact .inr (.inr ⟨z, rd.str, line_le hz, fin _ H3 (Same.refl _) rfl⟩)
    · cases ho
  · cases ho
    obtain ⟨a, vs, e1, s1, i1⟩ := rd.tup
    refine .inr (.inl ⟨a, vs, e1, s1.seq, fun hw => ?_, fun hw p hp => ?_⟩)
    · rw [i1.len] at hw
      rw [cut_whole _ _ _ hw] at fin
      exact fin _ H3 (Same.refl _) ⟨a, vs, rfl, s1, i1⟩
    · exact fin _ _ (new_tup (K := X.K) hp) ⟨p, _, rfl, TpT.of upd_same, ImmL.ext (Ext.of_same (new_tup (K := X.K) hp)) _ _ (immL_cut i1 _ _)⟩
  · cases ho
    obtain ⟨a, vs, e1, s1, i1⟩ := rd.lst
    exact .inl ⟨a, vs, e1, s1, fun p hp => fin _ _ (new_tup (K := X.K) hp) ⟨p, rfl, hp, _, upd_same, ImmL.ext (Ext.of_same (new_tup (K := X.K) hp)) _ _ (immL_cut i1 _ _)⟩⟩
  · cases ho
    obtain ⟨a, e1, s1⟩ := rd.scr
    exact .inl ⟨a, _, e1, s1, fun p hp => fin _ _ (new_tup (K := X.K) hp) ⟨p, rfl, hp, _, upd_same, by rw [cutV_map]; exact immL_map_int _⟩⟩
/-- xs[::-1] of a list -/
def dRev : D → Option S
  | .lst ds => some (.o (.lst ds.reverse))
  | _ => none

/-! ### calls of built-ins, by the values -/
def CR (X : Cx) (f : Value) (od : List D → Option S) : Prop :=
  ∃ r : List V → Hp → VK → Prop, CallR X f r ∧ ∀ (xs : List V) (H : Hp) (Q : VK) (ds : List D) (s : S), Paired (Rd X.K H) ds xs → od ds = some s → (∀ z H', Same H H' → RS X.K H H' s z → Q z H') → r xs H Q
def pkL (ρ : Rho) : List S → Out (List D)
  | [] => .ok []
  | s :: ss => pk ρ s >>= fun d => pkL ρ ss >>= fun ds => .ok (d :: ds)
theorem pkL_rd {K : PySem.W.Frag} {ρ' : Rho} {σ : L2.St} {H : Hp} (R : ER K g ρ' σ H) : ∀ {ss : List S} {xs : List V} {ds : List D}, NRL K σ H ss xs → pkL ρ' ss = .ok ds → Paired (Rd K H) ds xs
  | [], _, _, n, h => by cases h; cases (show _ = _ from n); exact .nil
  | s :: ss, _, ds, ⟨x, r, e, n1, n2⟩, h => by
    subst e
    unfold pkL at h
    cases h1 : pk ρ' s with
    | stuck => rw [h1] at h; cases h
    | exc c ρ1 => exact (pk_noexc h1).elim
    | ok d =>
      rw [h1] at h
      simp only [bind_ok] at h
      cases h2 : pkL ρ' ss with
      | stuck => rw [h2] at h; cases h
      | exc c ρ1 => rw [h2] at h; cases h
      | ok es =>
        rw [h2] at h
        cases h
        exact .cons (pk_rd n1 R (Ext.refl _) h1) (pkL_rd R n2 h2)
theorem pkL_noexc {ρ ρ' : Rho} {c : Str} : ∀ {ss : List S}, pkL ρ ss = .exc c ρ' → False
  | [], h => nomatch h
  | s :: ss, h => by
    unfold pkL at h
    cases h1 : pk ρ s with
    | stuck => rw [h1] at h; cases h
    | exc c ρ1 => exact (pk_noexc h1).elim
    | ok d =>
      rw [h1] at h
      simp only [bind_ok] at h
      cases h2 : pkL ρ ss with
      | stuck => rw [h2] at h; cases h
      | exc c ρ1 => exact pkL_noexc h2
      | ok es => rw [h2] at h; cases h
theorem Pst.pkL {K : PySem.W.Frag} {σ : L2.St} {H : Hp} {W : WX} {β : Type} {G : β → Hp → Prop} {ρ : Rho} {s : List S} {k : List D → Out β} (q : Pst K g σ H W G (PL.pkL ρ s >>= k)) : ∃ d, PL.pkL ρ s = .ok d ∧ Pst K g σ H W G (k d) := by
  cases h : PL.pkL ρ s with
  | stuck => rw [h] at q; exact q.elim
  | exc c ρ' => exact (pkL_noexc h).elim
  | ok d => rw [h] at q; exact ⟨d, rfl, q⟩
def eB (od : List D → Option S) (fa : Ax) : Ex := fun ρ => fa ρ >>= fun p => pkL p.2 p.1 >>= fun ds => liftO (od ds) >>= fun s => .ok (s, p.2)
theorem readCB {X : Cx} {W : WX} {r : List V → Hp → VK → Prop} {od : List D → Option S} {fa : Ax} {σ : L2.St} {H : Hp} {Q : VK}
    (h : ∀ (xs : List V) (H : Hp) (Q : VK) (ds : List D) (s : S), Paired (Rd X.K H) ds xs → od ds = some s → (∀ z H', Same H H' → RS X.K H H' s z → Q z H') → r xs H Q)
    (t : tE X.K g (eB od fa) W σ H Q) : tA X.K g fa W σ H fun xs H1 => r xs H1 Q := by
  obtain ⟨ρ, R, q⟩ := t
  refine tA_step R q fun ss ρ1 xs H1 R1 E1 n1 q1 => ?_
  obtain ⟨ds, h1, q3⟩ := q1.pkL
  obtain ⟨s, ho, q5⟩ := q3.opt
  exact h xs H1 Q ds s (pkL_rd R1 n1 h1) ho fun z H' sm rs => q5 H' (Ext.of_same sm) (R1.same sm) z (rs.sr R1)
theorem e_cb {x : Str} {id : String} {p : Pos} {od : List D → Option S} {fa : Ax} (hc : ∀ X, At g X → CR X (.builtin id) od) (hm : g.mg x = none) (hv : bootBuiltins x = some (.builtin id)) (ha : AOk g (e :: es) fa) (hg : Glo g x := by rfl)
    (hn : x ≠ "__name__" := by decide) (hdb : (x == ("__debug__" : Str)) = false := by decide)
    (he : ∀ env, starEach (e :: es) env = (false, eval e env) :: starEach es env := by intro _; rfl) (hpl : ∀ env, (backTo pos (starEach es env)).any (·.1) = false := by intro _; rfl) : EOk g (.Call (.Name x p) (e :: es) [] pos) (eB od fa) := fun X W A tk => by
  obtain ⟨r, hr, h⟩ := hc X A
  exact PE.imp (pe_callB hr (hg.gl A) (by rw [A.mg]; exact hm) hv (ha X W A tk) hn hdb (he _) (hpl _)) fun σ H Q t => readCB h t
theorem e_cty {x : Str} {T : String} {p : Pos} {od : List D → Option S} {fa : Ax} (hc : ∀ X, At g X → CR X (.type T) od) (hm : g.mg x = none) (hv : bootBuiltins x = some (.type T)) (ha : AOk g (e :: es) fa) (hg : Glo g x := by rfl)
    (hn : x ≠ "__name__" := by decide) (hdb : (x == ("__debug__" : Str)) = false := by decide)
    (he : ∀ env, starEach (e :: es) env = (false, eval e env) :: starEach es env := by intro _; rfl) (hpl : ∀ env, (backTo pos (starEach es env)).any (·.1) = false := by intro _; rfl) : EOk g (.Call (.Name x p) (e :: es) [] pos) (eB od fa) := fun X W A tk => by
  obtain ⟨r, hr, h⟩ := hc X A
  exact PE.imp (pe_callTy hr (hg.gl A) (by rw [A.mg]; exact hm) hv (ha X W A tk) hn hdb (he _) (hpl _)) fun σ H Q t => readCB h t
end
end PL

namespace PL
open PySem PySem.Spec PyProof.Rows L2
theorem pair1 {α β : Type} {R : α → β → Prop} {d : α} {xs : List β} (h : Paired R [d] xs) : ∃ x, xs = [x] ∧ R d x := by
  cases h with
  | cons r t => cases t; exact ⟨_, rfl, r⟩
theorem pair2 {α β : Type} {R : α → β → Prop} {d e : α} {xs : List β} (h : Paired R [d, e] xs) : ∃ x y, xs = [x, y] ∧ R d x ∧ R e y := by
  cases h with
  | cons r t =>
    cases t with
    | cons r' t => cases t; exact ⟨_, _, rfl, r, r'⟩
theorem CallR.or {X : Cx} {f : Value} {r r' : List V → Hp → VK → Prop} (h : CallR X f r) (h' : CallR X f r') : CallR X f (fun xs H Q => r xs H Q ∨ r' xs H Q) := by
  intro pins s σ H xs us Q I rx q
  rcases q with q | q
  · exact h pins s σ H xs us Q I rx q
  · exact h' pins s σ H xs us Q I rx q
section
variable {g : Cf} {X : Cx} {e a b c : Expr} {es : List Expr} {pos : Pos}
/-! ### len, abs, int, str, tuple, list, sum .. -/
def dLen : List D → Option S
  | [.str z] => if z.length ≤ 16777216 then some (.v (.int z.length)) else none
  | [.tup ds] => some (.v (.int ds.length))
  | [.lst ds] => some (.v (.int ds.length))
  | [.scr ns] => some (.v (.int ns.length))
  | _ => none
theorem c_len (A : At g X) : CR X (.builtin "len") dLen := by
  refine ⟨_, call_len, fun xs H Q ds s p h q => ?_⟩
  match ds, h with
  | [.str z], h =>
    obtain ⟨x, rfl, r⟩ := pair1 p
    cases r.str
    simp only [dLen] at h
    split at h
    · rename_i hz
      cases h
      exact ⟨_, _, rfl, ⟨line_le hz, rfl⟩, q _ H (Same.refl H) rfl⟩
    · cases h
  | [.tup ds], h =>
    obtain ⟨x, rfl, r⟩ := pair1 p
    obtain ⟨a, vs, rfl, s1, i1⟩ := r.tup
    cases h
    exact ⟨_, ds.length, rfl, .inr ⟨vs, s1.seq, i1.len.symm⟩, q _ H (Same.refl H) rfl⟩
  | [.lst ds], h =>
    obtain ⟨x, rfl, r⟩ := pair1 p
    obtain ⟨a, vs, rfl, s1, i1⟩ := r.lst
    cases h
    exact ⟨_, ds.length, rfl, .inl ⟨vs, s1, i1.len.symm⟩, q _ H (Same.refl H) rfl⟩
  | [.scr ns], h =>
    obtain ⟨x, rfl, r⟩ := pair1 p
    obtain ⟨a, rfl, s1⟩ := r.scr
    cases h
    exact ⟨_, ns.length, rfl, .inl ⟨_, s1, by rw [List.length_map]⟩, q _ H (Same.refl H) rfl⟩
def dAbs : List D → Option S
  | [.int i] => some (.v (.int (if i < 0 then -i else i)))
  | _ => none
theorem c_abs (A : At g X) : CR X (.builtin "abs") dAbs := by
  refine ⟨_, call_abs, fun xs H Q ds s p h q => ?_⟩
  match ds, h with
  | [.int i], h =>
    obtain ⟨x, rfl, r⟩ := pair1 p
    cases h
    cases r.int
    exact ⟨i, rfl, q _ H (Same.refl H) rfl⟩
def dInt1 : List D → Option S
  | [.int i] => some (.v (.int i))
  | [.bl k] => some (.v (.int (if k then 1 else 0)))
  | _ => none
theorem c_int (A : At g X) : CR X (.type "int") dInt1 := by
  refine ⟨_, call_int1, fun xs H Q ds s p h q => ?_⟩
  match ds, h with
  | [.int i], h =>
    obtain ⟨x, rfl, r⟩ := pair1 p
    cases h
    cases r.int
    exact .inl ⟨i, rfl, q _ H (Same.refl H) rfl⟩
  | [.bl k], h =>
    obtain ⟨x, rfl, r⟩ := pair1 p
    cases h
    cases r.bl
    exact .inr ⟨k, rfl, q _ H (Same.refl H) rfl⟩
def dStr1 : List D → Option S
  | [.int i] => if i.natAbs.log2 < 1920 then some (.v (.str (Str.ofString (toString i)))) else none
  | _ => none
theorem c_str (A : At g X) : CR X (.type "str") dStr1 := by
  refine ⟨_, call_str_int, fun xs H Q ds s p h q => ?_⟩
  match ds, h with
  | [.int i], h =>
    obtain ⟨x, rfl, r⟩ := pair1 p
    simp only [dStr1] at h
    split at h
    · rename_i hz
      cases h
      cases r.int
      exact ⟨i, rfl, hz, q _ H (Same.refl H) rfl⟩
    · cases h
def dTup1 : List D → Option S
  | [.tup ds] => some (.v (.tup ds))
  | [.lst ds] => some (.v (.tup ds))
  | [.scr ns] => some (.v (.tup (ns.map .int)))
  | _ => none
theorem c_tup (A : At g X) : CR X (.type "tuple") dTup1 := by
  refine ⟨_, call_tuple_of, fun xs H Q ds s p h q => ?_⟩
  match ds, h with
  | [.tup ds], h =>
    obtain ⟨x, rfl, r⟩ := pair1 p
    obtain ⟨a, vs, rfl, s1, i1⟩ := r.tup
    cases h
    exact ⟨a, vs, rfl, .inr ⟨s1.seq, q _ H (Same.refl H) ⟨a, vs, rfl, s1, i1⟩⟩⟩
  | [.lst ds], h =>
    obtain ⟨x, rfl, r⟩ := pair1 p
    obtain ⟨a, vs, rfl, s1, i1⟩ := r.lst
    cases h
    exact ⟨a, vs, rfl, .inl ⟨s1, fun p hp => q _ _ (new_tup (K := X.K) hp) ⟨p, _, rfl, TpT.of upd_same, ImmL.ext (Ext.of_same (new_tup (K := X.K) hp)) _ _ i1⟩⟩⟩
  | [.scr ns], h =>
    obtain ⟨x, rfl, r⟩ := pair1 p
    obtain ⟨a, rfl, s1⟩ := r.scr
    cases h
    exact ⟨a, _, rfl, .inl ⟨s1, fun p hp => q _ _ (new_tup (K := X.K) hp) ⟨p, _, rfl, TpT.of upd_same, immL_map_int ns⟩⟩⟩
def dLst1 : List D → Option S
  | [.tup ds] => some (.o (.lst ds))
  | [.lst ds] => some (.o (.lst ds))
  | [.scr ns] => some (.o (.lst (ns.map .int)))
  | _ => none
theorem c_list (A : At g X) : CR X (.type "list") dLst1 := by
  refine ⟨_, call_list_of, fun xs H Q ds s p h q => ?_⟩
  match ds, h with
  | [.tup ds], h =>
    obtain ⟨x, rfl, r⟩ := pair1 p
    obtain ⟨a, vs, rfl, s1, i1⟩ := r.tup
    cases h
    exact ⟨a, vs, rfl, .inr s1.seq, fun p hp => q _ _ (new_tup (K := X.K) hp) ⟨p, rfl, hp, _, upd_same, ImmL.ext (Ext.of_same (new_tup (K := X.K) hp)) _ _ i1⟩⟩
  | [.lst ds], h =>
    obtain ⟨x, rfl, r⟩ := pair1 p
    obtain ⟨a, vs, rfl, s1, i1⟩ := r.lst
    cases h
    exact ⟨a, vs, rfl, .inl s1, fun p hp => q _ _ (new_tup (K := X.K) hp) ⟨p, rfl, hp, _, upd_same, ImmL.ext (Ext.of_same (new_tup (K := X.K) hp)) _ _ i1⟩⟩
  | [.scr ns], h =>
    obtain ⟨x, rfl, r⟩ := pair1 p
    obtain ⟨a, rfl, s1⟩ := r.scr
    cases h
    exact ⟨a, _, rfl, .inl s1, fun p hp => q _ _ (new_tup (K := X.K) hp) ⟨p, rfl, hp, _, upd_same, immL_map_int ns⟩⟩
def blsD : List D → Option (List Bool)
  | [] => some []
  | .bl i :: ds => (blsD ds).map (i :: ·)
  | _ :: _ => none
theorem immL_bls {K : PySem.W.Frag} {H : Hp} : ∀ {ds : List D} {vs : List V} {ns : List Bool}, ImmL K H ds vs → blsD ds = some ns → vs = ns.map V.bl
  | [], _, _, h, e => by cases (show _ = _ from h); cases e; rfl
  | .bl i :: ds, _, ns, ⟨v, r, e1, h1, h2⟩, e => by
    subst e1
    cases (show _ = _ from h1)
    simp only [blsD] at e
    cases hh : blsD ds with
    | none => rw [hh] at e; cases e
    | some ms =>
      rw [hh] at e
      cases e
      rw [List.map_cons, immL_bls h2 hh]
  | .non :: _, _, _, _, e => nomatch e
  | .int _ :: _, _, _, _, e => nomatch e
  | .str _ :: _, _, _, _, e => nomatch e
  | .tup _ :: _, _, _, _, e => nomatch e
  | .lst _ :: _, _, _, _, e => nomatch e
  | .dic _ :: _, _, _, _, e => nomatch e
  | .scr _ :: _, _, _, _, e => nomatch e
def dAll : List D → Option S
  | [.lst ds] => (blsD ds).map fun bs => .v (.bl (bs.all id))
  | _ => none
def dAny : List D → Option S
  | [.lst ds] => (blsD ds).map fun bs => .v (.bl (bs.any id))
  | _ => none
theorem c_all (A : At g X) : CR X (.builtin "all") dAll := by
  refine ⟨_, cr_all A.calm, fun xs H Q ds s p h q => ?_⟩
  match ds, h with
  | [.lst ds], h =>
    obtain ⟨x, rfl, r⟩ := pair1 p
    obtain ⟨a, vs, rfl, s1, i1⟩ := r.lst
    simp only [dAll] at h
    cases hb : blsD ds with
    | none => rw [hb] at h; cases h
    | some bs =>
      rw [hb] at h
      cases h
      exact ⟨a, bs, rfl, by rw [← immL_bls i1 hb]; exact s1, q _ H (Same.refl H) rfl⟩
theorem c_any (A : At g X) : CR X (.builtin "any") dAny := by
  refine ⟨_, cr_any A.calm, fun xs H Q ds s p h q => ?_⟩
  match ds, h with
  | [.lst ds], h =>
    obtain ⟨x, rfl, r⟩ := pair1 p
    obtain ⟨a, vs, rfl, s1, i1⟩ := r.lst
    simp only [dAny] at h
    cases hb : blsD ds with
    | none => rw [hb] at h; cases h
    | some bs =>
      rw [hb] at h
      cases h
      exact ⟨a, bs, rfl, by rw [← immL_bls i1 hb]; exact s1, q _ H (Same.refl H) rfl⟩
def dSum : List D → Option S
  | [.lst ds] => (intsD ds).map fun ns => .v (.int ns.sum)
  | [.scr ns] => some (.v (.int ns.sum))
  | _ => none
theorem c_sum (A : At g X) : CR X (.builtin "sum") dSum := by
  refine ⟨_, cr_sum A.calm, fun xs H Q ds s p h q => ?_⟩
  match ds, h with
  | [.lst ds], h =>
    obtain ⟨x, rfl, r⟩ := pair1 p
    obtain ⟨a, vs, rfl, s1, i1⟩ := r.lst
    simp only [dSum] at h
    cases hb : intsD ds with
    | none => rw [hb] at h; cases h
    | some bs =>
      rw [hb] at h
      cases h
      exact ⟨a, bs, rfl, by rw [← immL_ints i1 hb]; exact s1, q _ H (Same.refl H) rfl⟩
  | [.scr ns], h =>
    obtain ⟨x, rfl, r⟩ := pair1 p
    obtain ⟨a, rfl, s1⟩ := r.scr
    cases h
    exact ⟨a, ns, rfl, s1, q _ H (Same.refl H) rfl⟩
/-- the greatest, the least of ints -/
def maxI : List Int → Int
  | [] => 0
  | n :: ns => ns.foldl max n
def minI : List Int → Int
  | [] => 0
  | n :: ns => ns.foldl min n
theorem foldl_max_spec : ∀ (ns : List Int) (a : Int), (a ≤ ns.foldl max a) ∧ (∀ y ∈ ns, y ≤ ns.foldl max a) ∧ (ns.foldl max a = a ∨ ns.foldl max a ∈ ns)
  | [], a => ⟨Int.le_refl _, by simp, .inl rfl⟩
  | n :: ns, a => by
    obtain ⟨h1, h2, h3⟩ := foldl_max_spec ns (max a n)
    refine ⟨by simp only [List.foldl_cons]; omega, fun y hy => ?_, ?_⟩
    · simp only [List.foldl_cons]
      rcases List.mem_cons.mp hy with rfl | hy
      · omega
      · exact h2 y hy
    · simp only [List.foldl_cons]
      rcases h3 with h3 | h3
      · rw [h3]
        by_cases c : n ≤ a
        · left; omega
        · right; rw [show max a n = n by omega]; exact List.mem_cons_self
      · right; exact List.mem_cons_of_mem _ h3
theorem foldl_min_spec : ∀ (ns : List Int) (a : Int), (ns.foldl min a ≤ a) ∧ (∀ y ∈ ns, ns.foldl min a ≤ y) ∧ (ns.foldl min a = a ∨ ns.foldl min a ∈ ns)
  | [], a => ⟨Int.le_refl _, by simp, .inl rfl⟩
  | n :: ns, a => by
    obtain ⟨h1, h2, h3⟩ := foldl_min_spec ns (min a n)
    refine ⟨by simp only [List.foldl_cons]; omega, fun y hy => ?_, ?_⟩
    · simp only [List.foldl_cons]
      rcases List.mem_cons.mp hy with rfl | hy
      · omega
      · exact h2 y hy
    · simp only [List.foldl_cons]
      rcases h3 with h3 | h3
      · rw [h3]
        by_cases c : a ≤ n
        · left; omega
        · right; rw [show min a n = n by omega]; exact List.mem_cons_self
      · right; exact List.mem_cons_of_mem _ h3
theorem maxI_mem {ns : List Int} (h : 0 < ns.length) : maxI ns ∈ ns := by
  cases ns with
  | nil => simp at h
  | cons n ns =>
    obtain ⟨_, _, h3⟩ := foldl_max_spec ns n
    rcases h3 with h3 | h3
    · show ns.foldl max n ∈ _; rw [h3]; exact List.mem_cons_self
    · exact List.mem_cons_of_mem _ h3
theorem maxI_le {ns : List Int} {y : Int} (h : y ∈ ns) : y ≤ maxI ns := by
  cases ns with
  | nil => cases h
  | cons n ns =>
    obtain ⟨h1, h2, _⟩ := foldl_max_spec ns n
    rcases List.mem_cons.mp h with rfl | h
    · exact h1
    · exact h2 y h
theorem minI_mem {ns : List Int} (h : 0 < ns.length) : minI ns ∈ ns := by
  cases ns with
  | nil => simp at h
  | cons n ns =>
    obtain ⟨_, _, h3⟩ := foldl_min_spec ns n
    rcases h3 with h3 | h3
    · show ns.foldl min n ∈ _; rw [h3]; exact List.mem_cons_self
    · exact List.mem_cons_of_mem _ h3
theorem minI_le {ns : List Int} {y : Int} (h : y ∈ ns) : minI ns ≤ y := by
  cases ns with
  | nil => cases h
  | cons n ns =>
    obtain ⟨h1, h2, _⟩ := foldl_min_spec ns n
    rcases List.mem_cons.mp h with rfl | h
    · exact h1
    · exact h2 y h
def dMax : List D → Option S
  | [.int i, .int j] => some (.v (.int (if j > i then j else i)))
  | [.lst ds] => match intsD ds with
    | some (n :: ns) => some (.v (.int (maxI (n :: ns))))
    | _ => none
  | _ => none
def dMin : List D → Option S
  | [.int i, .int j] => some (.v (.int (if j < i then j else i)))
  | [.lst ds] => match intsD ds with
    | some (n :: ns) => some (.v (.int (minI (n :: ns))))
    | _ => none
  | _ => none
theorem c_max (A : At g X) : CR X (.builtin "max") dMax := by
  refine ⟨_, CallR.or (call_max2 A.calm) (cr_max A.calm), fun xs H Q ds s p h q => ?_⟩
  match ds, h with
  | [.int i, .int j], h =>
    obtain ⟨x, y, rfl, r, r'⟩ := pair2 p
    cases h
    cases r.int
    cases r'.int
    exact .inl ⟨i, j, rfl, q _ H (Same.refl H) rfl⟩
  | [.lst ds], h =>
    obtain ⟨x, rfl, r⟩ := pair1 p
    obtain ⟨a, vs, rfl, s1, i1⟩ := r.lst
    simp only [dMax] at h
    cases hb : intsD ds with
    | none => rw [hb] at h; cases h
    | some bs =>
      cases bs with
      | nil => rw [hb] at h; cases h
      | cons n ns =>
        rw [hb] at h
        cases h
        refine .inr ⟨a, n :: ns, rfl, by rw [← immL_ints i1 hb]; exact s1, by simp, fun m hm hle => ?_⟩
        have e : m = maxI (n :: ns) := Int.le_antisymm (maxI_le hm) (hle _ (maxI_mem (by simp)))
        subst e
        exact q _ H (Same.refl H) rfl
theorem c_min (A : At g X) : CR X (.builtin "min") dMin := by
  refine ⟨_, CallR.or (call_min2 A.calm) (cr_min A.calm), fun xs H Q ds s p h q => ?_⟩
  match ds, h with
  | [.int i, .int j], h =>
    obtain ⟨x, y, rfl, r, r'⟩ := pair2 p
    cases h
    cases r.int
    cases r'.int
    exact .inl ⟨i, j, rfl, q _ H (Same.refl H) rfl⟩
  | [.lst ds], h =>
    obtain ⟨x, rfl, r⟩ := pair1 p
    obtain ⟨a, vs, rfl, s1, i1⟩ := r.lst
    simp only [dMin] at h
    cases hb : intsD ds with
    | none => rw [hb] at h; cases h
    | some bs =>
      cases bs with
      | nil => rw [hb] at h; cases h
      | cons n ns =>
        rw [hb] at h
        cases h
        refine .inr ⟨a, n :: ns, rfl, by rw [← immL_ints i1 hb]; exact s1, by simp, fun m hm hle => ?_⟩
        have e : m = minI (n :: ns) := Int.le_antisymm (hle _ (minI_mem (by simp))) (minI_le hm)
        subst e
        exact q _ H (Same.refl H) rfl
/-! ### isinstance -/
inductive Ty where
  | int | bool | str | tuple | list | dict
def Ty.name : Ty → String
  | .int => "int" | .bool => "bool" | .str => "str" | .tuple => "tuple" | .list => "list" | .dict => "dict"
def isT : Ty → D → Option Bool
  | _, .dic [] => none
  | t, .dic ((k, _) :: _) => match keyD k with
    | some _ => some (match t with | .dict => true | _ => false)
    | none => none
  | .int, .int _ => some true
  | .int, .bl _ => some true
  | .bool, .bl _ => some true
  | .str, .str _ => some true
  | .tuple, .tup _ => some true
  | .list, .lst _ => some true
  | .list, .scr _ => some true
  | _, _ => some false
def tyN : D → String
  | .non => "NoneType" | .bl _ => "bool" | .int _ => "int" | .str _ => "str" | .tup _ => "tuple" | .lst _ => "list" | .dic _ => "dict" | .scr _ => "list"
theorem kit_tab : ∀ (t : Ty) (d : D) (k : Bool), isT t d = some k → kitB (tyN d) t.name = some k := by
  intro t d k h
  cases d with
  | dic kvs =>
    cases kvs with
    | nil => cases t <;> cases h
    | cons kv r =>
      obtain ⟨kk, d⟩ := kv
      cases hk : keyD kk with
      | none => cases t <;> (simp only [isT, hk] at h; cases h)
      | some k' => cases t <;> (simp only [isT, hk] at h; cases h; simp only [tyN, Ty.name]; decide +kernel)
  | _ => cases t <;> (cases h; simp only [tyN, Ty.name]; decide +kernel)
theorem tyx_of {K : PySem.W.Frag} {H : Hp} {t : Ty} {d : D} {x : V} {k : Bool} (r : Rd K H d x) (h : isT t d = some k) : TyX K H x (.type (tyN d)) := by
  cases d with
  | non => cases r.non; exact .base .non
  | bl b => cases r.bl; exact .base (.bl b)
  | int b => cases r.int; exact .base (.int b)
  | str b => cases r.str; exact .base (.str b)
  | tup ds =>
    obtain ⟨a, vs, rfl, s1, i1⟩ := r.tup
    rcases s1 with (s1 | ⟨o, s1⟩) | ⟨o, _, _, s1, _, s2, _⟩
    · exact .base (.tup s1)
    · exact .fTuple s1
    · exact .kTuple s1 s2
  | lst ds =>
    obtain ⟨a, vs, rfl, s1, i1⟩ := r.lstR
    rcases s1 with s1 | ⟨o, s1⟩
    · exact .base (.lst s1)
    · exact .base (.frz s1)
  | scr ns =>
    obtain ⟨a, rfl, s1⟩ := r.scr
    rcases s1 with (s1 | ⟨o, s1⟩) | ⟨o, _, _, s1, s2, _⟩
    · exact .base (.lst s1)
    · exact .base (.frz s1)
    · exact .kList s1 s2
  | dic kvs =>
    cases kvs with
    | nil => cases t <;> cases h
    | cons kv r' =>
      obtain ⟨kk, d⟩ := kv
      have hk : ∃ k', keyD kk = some k' := by
        cases hk : keyD kk with
        | none => cases t <;> (simp only [isT, hk] at h; cases h)
        | some k' => exact ⟨k', rfl⟩
      obtain ⟨k', hk⟩ := hk
      have notT : ∀ {kws}, ImmT K H ((kk, d) :: r') kws → False := fun {kws} hh => by
        cases kk <;> first | exact hh.elim | cases hk
      rcases r with ⟨a, o, rfl, ⟨kws, h1, h2⟩ | ⟨kws, h1, h2⟩⟩ | ⟨a, rfl, ⟨kws, h1, h2⟩ | ⟨kws, h1, h2⟩⟩
      · exact .fDict h1
      · exact (notT h2).elim
      · exact .base (.dK h1)
      · exact (notT h2).elim
def tIsi (f : D → Option Bool) (fa : Ex) : Tx := fun ρ => fa ρ >>= fun p => pk p.2 p.1 >>= fun d => liftO (f d) >>= fun k => .ok (k, p.2)
theorem read_isi {X : Cx} {W : WX} {β : Type} {G : β → Hp → Prop} {f : D → Option Bool} {fa : Ex} {σ : L2.St} {H : Hp} {Q : VK} {ρ : Rho} {k : Bool × Rho → Out β} {r : V → Hp → VK → Prop}
    (h : ∀ (x : V) (H : Hp) (Q : VK) (d : D) (b : Bool), Rd X.K H d x → f d = some b → Q (.bl b) H → r x H Q)
    (R : ER X.K g ρ σ H) (t : Pst X.K g σ H W G (tIsi f fa ρ >>= k)) (hk : ∀ b ρ2 H2, ER X.K g ρ2 σ H2 → Ext H H2 → Pst X.K g σ H2 W G (k (b, ρ2)) → Q (.bl b) H2) : tN X.K g fa W σ H fun x H1 => r x H1 Q := by
  have bb : tIsi f fa ρ >>= k = (fa ρ >>= fun p => pk p.2 p.1 >>= fun d => liftO (f d) >>= fun b => k (b, p.2)) := by
    unfold tIsi
    cases fa ρ with
    | stuck => rfl
    | exc c ρ1 => rfl
    | ok p =>
      simp only [bind_ok]
      cases pk p.2 p.1 with
      | stuck => rfl
      | exc c ρ1 => rfl
      | ok d =>
        simp only [bind_ok]
        cases f d <;> rfl
  rw [bb] at t
  refine tN_step R t fun s1 ρ1 x H1 R1 E1 n1 q1 => ?_
  obtain ⟨d, h1, q3⟩ := q1.pk
  obtain ⟨b, ho, q5⟩ := q3.opt
  exact h x H1 Q d b (pk_rd n1 R1 (Ext.refl _) h1) ho (hk b ρ1 H1 R1 E1 q5)
/-- isinstance(a, T), T a built-in type -/
theorem e_isi (t : Ty) {T : Str} {p p2 : Pos} {fa : Ex} (hT : bootBuiltins T = some (.type t.name)) (hm : g.mg "isinstance" = none) (hmT : g.mg T = none) (ha : EOk g a fa) (hg : Glo g "isinstance" := by rfl) (hgT : Glo g T := by rfl)
    (hn : T ≠ "__name__" := by decide) (hdb : (T == ("__debug__" : Str)) = false := by decide)
    (h1 : ∀ env, starEach (a :: [.Name T p2]) env = (false, eval a env) :: starEach [.Name T p2] env := by intro _; rfl) (h2 : ∀ env, starEach (.Name T p2 :: []) env = (false, eval (.Name T p2) env) :: starEach [] env := by intro _; rfl)
    (hpl : ∀ env, (backTo pos (starEach [.Name T p2] env)).any (·.1) = false := by intro _; rfl) : EOk g (.Call (.Name "isinstance" p) [a, .Name T p2] [] pos) (bE (tIsi (isT t) fa)) := fun X W A tk => by
  refine PE.imp (pe_callB call_isi (hg.gl A) (by rw [A.mg]; exact hm) (by decide +kernel) (pa_cons (ha.n A tk) (pa_cons (pe_bltn (v := .ty t.name) (hgT.gl A) (by rw [A.mg]; exact hmT) hT rfl hn hdb) pa_nil (h2 _)) (h1 _)) (by decide) (by decide) (h1 _) (hpl _)) fun σ H Q ⟨ρ, R, q⟩ => ?_
  refine read_isi (r := fun x H1 Q => rIsi X.K [x, .ty t.name] H1 Q) (fun x H Q d b r h q => ?_) R q fun b ρ2 H2 R2 E2 q => q H2 (Ext.refl _) R2 _ rfl
  exact ⟨x, _, _, _, b, rfl, .ty _, tyx_of r h, kit_ty (kit_tab t d b h), q⟩
theorem t_isi (t : Ty) {T : Str} {p p2 : Pos} {fa : Ex} (hT : bootBuiltins T = some (.type t.name)) (hm : g.mg "isinstance" = none) (hmT : g.mg T = none) (ha : EOk g a fa) (hg : Glo g "isinstance" := by rfl) (hgT : Glo g T := by rfl)
    (hn : T ≠ "__name__" := by decide) (hdb : (T == ("__debug__" : Str)) = false := by decide)
    (h1 : ∀ env, starEach (a :: [.Name T p2]) env = (false, eval a env) :: starEach [.Name T p2] env := by intro _; rfl) (h2 : ∀ env, starEach (.Name T p2 :: []) env = (false, eval (.Name T p2) env) :: starEach [] env := by intro _; rfl)
    (hpl : ∀ env, (backTo pos (starEach [.Name T p2] env)).any (·.1) = false := by intro _; rfl) : TOk g (.Call (.Name "isinstance" p) [a, .Name T p2] [] pos) (tIsi (isT t) fa) := fun X W A tk => by
  refine PT.imp (pt_val (pe_callB call_isi (hg.gl A) (by rw [A.mg]; exact hm) (by decide +kernel) (pa_cons (ha.n A tk) (pa_cons (pe_bltn (v := .ty t.name) (hgT.gl A) (by rw [A.mg]; exact hmT) hT rfl hn hdb) pa_nil (h2 _)) (h1 _)) (by decide) (by decide) (h1 _) (hpl _))) fun σ H Q ⟨ρ, R, q⟩ => ?_
  refine read_isi (Q := fun v H' => ∃ c, v = .bl c ∧ Q c H') (G := fun p H' => ER X.K g p.2 σ H' → Q p.1 H') (k := fun p => .ok p) (r := fun x H1 Q => rIsi X.K [x, .ty t.name] H1 Q) (fun x H Q d b r h q => ?_) R (by rw [bind_self]; exact q) fun b ρ2 H2 R2 E2 q => ⟨b, rfl, q H2 (Ext.refl _) R2⟩
  exact ⟨x, _, _, _, b, rfl, .ty _, tyx_of r h, kit_ty (kit_tab t d b h), q⟩
end
end PL

namespace PL
open PySem PySem.Spec PyProof.Rows L2
/-! ### statements -/
inductive Fl where
  | next (ρ : Rho) | ret (s : S) (ρ : Rho) | brk (ρ : Rho) | cnt (ρ : Rho)
abbrev Sx := Rho → Out Fl
section
variable {g : Cf} {X : Cx} {e a b c : Expr} {es : List Expr} {pos : Pos} {K : PySem.W.Frag} {W : WX}
/-- a value that is bound to a name, or handed back -/
def BR (K : PySem.W.Frag) (g : Cf) (ρ : Rho) (σ : L2.St) (H : Hp) : S → V → Prop
  | .v d, x => Imm K H d x
  | .o d, x => ∃ a, x = .ref a ∧ OwnAt K H a d ∧ ¬ Own ρ σ a ∧ g.H0 a = none
  | .b _, _ => False
def bd (l : List Nat) (s : S) (ρ : Rho) : Out (S × Rho) := match s with
  | .v d => .ok (.v d, ρ)
  | .o d => .ok (.o d, ρ)
  | .b i => fz l (.b i) ρ >>= fun p => .ok (.v p.1, p.2)
def eBd (l : List Nat) (f : Ex) : Ex := fun ρ => f ρ >>= fun p => bd l p.1 p.2
def tBd (K : PySem.W.Frag) (g : Cf) (f : Ex) (W : WX) : TE := fun σ H Q => ∃ ρ, ER K g ρ σ H ∧ Pst K g σ H W (fun p H' => ER K g p.2 σ H' → ∀ x, BR K g p.2 σ H' p.1 x → Q x H') (eBd g.ios f ρ)
theorem EOk.bd {f : Ex} (h : EOk g e f) (A : At g X) (tk : Takes X W) : PE X e (tBd X.K g f W) := by
  refine ⟨fun pins s σ H Q I ⟨ρ, R, q⟩ => ?_⟩
  unfold eBd at q
  cases hf : f ρ with
  | stuck => rw [hf] at q; exact q.elim
  | exc c ρ' =>
    rw [hf] at q
    exact (h X W A tk).run pins s σ H Q I ⟨ρ, R, by rw [hf]; exact q⟩
  | ok p =>
    obtain ⟨s', ρ'⟩ := p
    rw [hf] at q
    have q : Pst X.K g σ H W (fun p H' => ER X.K g p.2 σ H' → ∀ x, BR X.K g p.2 σ H' p.1 x → Q x H') (PL.bd g.ios s' ρ') := q
    refine thn ((h X W A tk).run pins s σ H (fun x H' => ER X.K g ρ' σ H' ∧ Ext H H' ∧ SR X.K g ρ' σ H' s' x) I ⟨ρ, R, by rw [hf]; exact fun H' b a x c => ⟨a, b, c⟩⟩) fun u s1 ⟨x, H1, I1, r1, R1, e1, sr⟩ => ?_
    cases s' with
    | v d => exact ⟨x, H1, I1, r1, q H1 e1 R1 x sr⟩
    | o d => exact ⟨x, H1, I1, r1, q H1 e1 R1 x sr⟩
    | b i =>
      unfold PL.bd at q
      obtain ⟨p, hp, q2⟩ := q.fz
      obtain ⟨H2, I2, R2, E2, im⟩ := fz_ok I1 R1 (z := .b i) (x := x) sr.1 (d := p.1) (ρ' := p.2) hp
      exact ⟨x, H2, I2, r1, q2 H2 (e1.trans E2) R2 x im⟩
/-- what is wanted behind statements -/
def PsS (K : PySem.W.Frag) (g : Cf) (H : Hp) (W : WX) (D : Ends) : Out Fl → Prop
  | .ok (.next ρ') => ∀ σ' H', Ext H H' → ER K g ρ' σ' H' → D.nx σ' H'
  | .ok (.ret s ρ') => ∀ σ' H' x, Ext H H' → ER K g ρ' σ' H' → BR K { g with io := g.io } [] [] H' s x → D.rt x H'
  | .ok (.brk ρ') => ∀ σ' H', Ext H H' → ER K g ρ' σ' H' → D.bk σ' H'
  | .ok (.cnt ρ') => ∀ σ' H', Ext H H' → ER K g ρ' σ' H' → D.ct σ' H'
  | .exc c ρ' => ∀ cls σ' H', Ext H H' → ER K g ρ' σ' H' → g.mg c = some cls → W cls none σ' H'
  | .stuck => False
def tS (K : PySem.W.Frag) (g : Cf) (f : Sx) (W : WX) : TS := fun D σ H => ∃ ρ, ER K g ρ σ H ∧ PsS K g H W D (f ρ)
/-- the context of a statement -/
structure AtS (g : Cf) (X : Cx) : Prop extends At g X where
  own : PassesOwn (model X.prog X.w) X.A X.env X.xe
  stk : X.stack = X.env :: X.outer
  fr : X.env.frame = some X.env.locals
def SOk (g : Cf) (st : Stmt) (f : Sx) : Prop := ∀ (X : Cx) (W : WX), AtS g X → Takes X W → PS X st (tS X.K g f W)
def SsOk (g : Cf) (st : List Stmt) (f : Sx) : Prop := ∀ (X : Cx) (W : WX), AtS g X → Takes X W → PSs X st (tS X.K g f W)
theorem PsS.ext {H H1 : Hp} {D : Ends} (e : Ext H H1) : ∀ {r : Out Fl}, PsS K g H W D r → PsS K g H1 W D r
  | .ok (.next _), q => fun σ' H' x => q σ' H' (e.trans x)
  | .ok (.ret _ _), q => fun σ' H' x y => q σ' H' x (e.trans y)
  | .ok (.brk _), q => fun σ' H' x => q σ' H' (e.trans x)
  | .ok (.cnt _), q => fun σ' H' x => q σ' H' (e.trans x)
  | .exc _ _, q => fun cls σ' H' x => q cls σ' H' (e.trans x)
  | .stuck, q => q
/-- from a statement's wish to the wish of its first reckoning, of any kind -/
theorem Ps_step {α : Type} {H : Hp} {σ : L2.St} {D : Ends} {G : α → Hp → Prop} {r : Out α} {k : α → Out Fl} (q : PsS K g H W D (r >>= k)) (h : ∀ p, r = .ok p → PsS K g H W D (k p) → ∀ H1, Ext H H1 → G p H1) : Pst K g σ H W G r := by
  cases r with
  | stuck => exact q.elim
  | exc c ρ1 => exact fun cls H' R x m => q cls σ H' x R m
  | ok p => exact fun H1 E1 => h p rfl q H1 E1
theorem PsS.opt {α : Type} {H : Hp} {D : Ends} {o : Option α} {k : α → Out Fl} (q : PsS K g H W D (liftO o >>= k)) : ∃ a, o = some a ∧ PsS K g H W D (k a) := by
  cases o with
  | none => exact q.elim
  | some a => exact ⟨a, rfl, q⟩
theorem PsS.pk {H : Hp} {D : Ends} {ρ : Rho} {s : S} {k : PL.D → Out Fl} (q : PsS K g H W D (PL.pk ρ s >>= k)) : ∃ d, PL.pk ρ s = .ok d ∧ PsS K g H W D (k d) := by
  cases h : PL.pk ρ s with
  | stuck => rw [h] at q; exact q.elim
  | exc c ρ' => exact (pk_noexc h).elim
  | ok d => rw [h] at q; exact ⟨d, rfl, q⟩
/-! ### blocks -/
def sSeq (f h : Sx) : Sx := fun ρ => f ρ >>= fun r => match r with
  | .next ρ' => h ρ'
  | .ret s ρ' => .ok (.ret s ρ')
  | .brk ρ' => .ok (.brk ρ')
  | .cnt ρ' => .ok (.cnt ρ')
def sNil : Sx := fun ρ => .ok (.next ρ)
variable {st : Stmt} {rest : List Stmt} {f h : Sx}
theorem ss_nil : SsOk g [] sNil := fun X W A tk => PSs.imp pss_nil fun D σ H ⟨ρ, R, q⟩ => q σ H (Ext.refl H) R
theorem ss_one (h1 : SOk g st f) : SsOk g [st] f := fun X W A tk => pss_one (h1 X W A tk)
theorem ss_cons (h1 : SOk g st f) (h2 : SsOk g rest h) : SsOk g (st :: rest) (sSeq f h) := fun X W A tk => by
  refine PSs.imp (pss_cons (h1 X W A tk) (h2 X W A tk)) fun D σ H ⟨ρ, R, q⟩ => ⟨ρ, R, ?_⟩
  unfold sSeq at q
  cases hf : f ρ with
  | stuck => rw [hf] at q; exact q.elim
  | exc c ρ1 => rw [hf] at q; exact q
  | ok p =>
    rw [hf] at q
    cases p with
    | next ρ' => exact fun σ' H' x R' => ⟨ρ', R', PsS.ext x q⟩
    | ret s ρ' => exact q
    | brk ρ' => exact q
    | cnt ρ' => exact q
theorem s_pass : SOk g (.Pass pos) sNil := fun X W A tk => PS.imp ps_pass fun D σ H ⟨ρ, R, q⟩ => q σ H (Ext.refl H) R
def sBrk : Sx := fun ρ => .ok (.brk ρ)
def sCnt : Sx := fun ρ => .ok (.cnt ρ)
theorem s_brk : SOk g (.Break pos) sBrk := fun X W A tk => PS.imp ps_break fun D σ H ⟨ρ, R, q⟩ => q σ H (Ext.refl H) R
theorem s_cnt : SOk g (.Continue pos) sCnt := fun X W A tk => PS.imp ps_continue fun D σ H ⟨ρ, R, q⟩ => q σ H (Ext.refl H) R
/-! ### expressions, returns -/
def sEx (f : Ex) : Sx := fun ρ => f ρ >>= fun p => .ok (.next p.2)
theorem s_ex {f : Ex} (h : EOk g e f) (hs : ∀ env, swapsWith e none pos.line env = pure false := by intro _; rfl) : SOk g (.Expr e pos) (sEx f) := fun X W A tk => by
  refine PS.imp (ps_expr (h.n A.toAt tk) (hs _)) fun D σ H ⟨ρ, R, q⟩ => ⟨ρ, R, Ps_step q fun p _ q1 H1 E1 R1 x n => q1 σ H1 E1 R1⟩
/-- what is handed back: an own object of the def is moved -/
def mv (l : List Nat) (s : S) (ρ : Rho) : Out (S × Rho) := match s with
  | .v d => .ok (.v d, ρ)
  | .o d => .ok (.o d, ρ)
  | .b i => if i ∈ l then .stuck else match ρ[i]? with
    | some (some (.o d)) => .ok (.o d, ρ)
    | some (some (.v d)) => .ok (.v d, ρ)
    | _ => .stuck
def sRet (l : List Nat) (f : Ex) : Sx := fun ρ => f ρ >>= fun p => mv l p.1 p.2 >>= fun r => .ok (.ret r.1 r.2)
theorem mv_ok {σ : L2.St} {H : Hp} {ρ ρ' : Rho} {s z : S} {x : V} (R : ER K g ρ σ H) (n : SR K g ρ σ H s x) (h : mv g.ios s ρ = .ok (z, ρ')) : ρ' = ρ ∧ BR K g [] [] H z x := by
  have no : ∀ a, ¬ Own ([] : Rho) ([] : L2.St) a := fun a ⟨i, d, h1, _⟩ => by simp at h1
  cases s with
  | v d => cases h; exact ⟨rfl, n⟩
  | o d =>
    cases h
    obtain ⟨a, h1, h2, h3, h4⟩ := n
    exact ⟨rfl, a, h1, h2, no a, h4⟩
  | b i =>
    obtain ⟨n1, d, n2⟩ := n
    simp only [mv] at h
    split at h
    · cases h
    · rename_i hio
      rw [n2] at h
      cases h
      obtain ⟨a, h1, h2⟩ := R.own i d n2
      rw [n1] at h1; cases h1
      refine ⟨rfl, a, rfl, h2, no a, (R.new i d a n2 n1).elim id fun z => (hio (List.mem_map.mpr ⟨_, z, rfl⟩)).elim⟩
theorem mv_noexc {l : List Nat} {ρ ρ' : Rho} {s : S} {c : Str} (h : mv l s ρ = .exc c ρ') : False := by
  cases s with
  | v d => cases h
  | o d => cases h
  | b i =>
    simp only [mv] at h
    split at h
    · cases h
    · split at h <;> cases h
theorem s_ret {f : Ex} (h : EOk g e f) : SOk g (.Return (some e) pos) (sRet g.ios f) := fun X W A tk => by
  refine PS.imp (ps_ret (h X W A.toAt tk)) fun D σ H ⟨ρ, R, q⟩ => ⟨ρ, R, Ps_step q fun p _ q1 H1 E1 R1 x n => ?_⟩
  cases hm : mv g.ios p.1 p.2 with
  | stuck => rw [hm] at q1; exact q1.elim
  | exc c ρ' => exact (mv_noexc hm).elim
  | ok r =>
    rw [hm] at q1
    obtain ⟨h1, h2⟩ := mv_ok R1 n (z := r.1) (ρ' := r.2) hm
    exact q1 σ H1 x E1 (by rw [h1]; exact R1) h2
def sRetN : Sx := fun ρ => .ok (.ret (.v .non) ρ)
theorem s_retN : SOk g (.Return none pos) sRetN := fun X W A tk => PS.imp ps_retN fun D σ H ⟨ρ, R, q⟩ => q σ H .non (Ext.refl H) R rfl
/-! ### names bound -/
theorem ER.set {σ : L2.St} {H : Hp} {ρ : Rho} {i : Nat} {s : S} {x : V} (R : ER K g ρ σ H) (b : BR K g ρ σ H s x) (hio : i ∉ g.ios) : ER K g (ρ.set i (some s)) (σ.set i (some x)) H := by
  have hl := R.len
  rcases Nat.lt_or_ge i ρ.length with hlt | hge
  · have hσ : i < σ.length := hl ▸ hlt
    have gρ : ∀ j, (ρ.set i (some s))[j]? = if j = i then some (some s) else ρ[j]? := fun j => by
      by_cases hj : j = i
      · subst hj; rw [if_pos rfl, List.getElem?_set_self hlt]
      · rw [if_neg hj, List.getElem?_set_ne (Ne.symm hj)]
    have gσ : ∀ j, (σ.set i (some x))[j]? = if j = i then some (some x) else σ[j]? := fun j => by
      by_cases hj : j = i
      · subst hj; rw [if_pos rfl, List.getElem?_set_self hσ]
      · rw [if_neg hj, List.getElem?_set_ne (Ne.symm hj)]
    have isO : ∀ {d}, s = .o d → ∃ a, x = .ref a ∧ OwnAt K H a d ∧ ¬ Own ρ σ a ∧ g.H0 a = none := fun {d} e => by subst e; exact b
    refine ⟨by rw [List.length_set, List.length_set]; exact hl, fun j d h => ?_, fun j d h => ?_, fun j m h => ?_, fun j m d d' a h1 h2 h3 h4 => ?_, R.old, fun j d a h1 h2 => ?_, fun p hp => ?_⟩
    · rw [gρ] at h
      rw [gσ]
      by_cases hj : j = i
      · rw [if_pos hj] at h ⊢
        cases h
        exact ⟨x, rfl, b⟩
      · rw [if_neg hj] at h ⊢
        exact R.val j d h
    · rw [gρ] at h
      rw [gσ]
      by_cases hj : j = i
      · rw [if_pos hj] at h ⊢
        cases h
        obtain ⟨a, rfl, h2, _⟩ := isO rfl
        exact ⟨a, rfl, h2⟩
      · rw [if_neg hj] at h ⊢
        exact R.own j d h
    · rw [gρ] at h
      by_cases hj : j = i
      · rw [if_pos hj] at h
        cases h
        exact b
      · rw [if_neg hj] at h
        exact R.bor j m h
    · rw [gρ] at h1 h2
      rw [gσ] at h3 h4
      by_cases hj : j = i
      · by_cases hm : m = i
        · rw [hj, hm]
        · rw [if_pos hj] at h1 h3
          rw [if_neg hm] at h2 h4
          cases h1
          obtain ⟨a', e, _, h7, _⟩ := isO rfl
          rw [e] at h3
          cases h3
          exact (h7 ⟨m, d', h2, h4⟩).elim
      · by_cases hm : m = i
        · rw [if_neg hj] at h1 h3
          rw [if_pos hm] at h2 h4
          cases h2
          obtain ⟨a', e, _, h7, _⟩ := isO rfl
          rw [e] at h4
          cases h4
          exact (h7 ⟨j, d, h1, h3⟩).elim
        · rw [if_neg hj] at h1 h3
          rw [if_neg hm] at h2 h4
          exact R.sep j m d d' a h1 h2 h3 h4
    · rw [gρ] at h1
      rw [gσ] at h2
      by_cases hj : j = i
      · rw [if_pos hj] at h1 h2
        cases h1
        obtain ⟨a', e, _, _, h8⟩ := isO rfl
        rw [e] at h2
        cases h2
        exact .inl h8
      · rw [if_neg hj] at h1 h2
        exact R.new j d a h1 h2
    · obtain ⟨h1, d, h2⟩ := R.io p hp
      have hj : p.1 ≠ i := fun z => hio (List.mem_map.mpr ⟨p, hp, z⟩)
      rw [gσ, if_neg hj]
      refine ⟨h1, d, ?_⟩
      rw [gρ, if_neg hj]
      exact h2
  · rw [List.set_eq_of_length_le hge, List.set_eq_of_length_le (hl ▸ hge)]
    exact R
def sSet (l : List Nat) (i : Nat) (f : Ex) : Sx := fun ρ => eBd l f ρ >>= fun p => if i ∈ l then .stuck else .ok (.next (p.2.set i (some p.1)))
/-- the name stands in slot i -/
structure Slot (g : Cf) (x : Str) (i : Nat) : Prop where
  nd : g.N.Nodup
  ix : g.N[i]? = some x
  loc : L2.Loc g.sc x
  fn : g.fn x = true ∨ g.sc.names.lookup x = some .local
theorem s_set {i : Nat} {x : Str} {f : Ex} {pos' : Pos} (sl : Slot g x i) (h : EOk g e f) (hs : ∀ env, env.scope = g.sc → swapsWith e (some (.Name x pos')) pos.line env = pure false := by intro _ _; rfl) : SOk g (.Assign [.Name x pos'] e pos) (sSet g.ios i f) := fun X W A tk => by
  refine PS.imp (ps_set (i := i) (by rw [A.N]; exact sl.nd) (by rw [A.N]; exact sl.ix) (by unfold L2.Loc; rw [A.sc]; exact sl.loc) (h.bd A.toAt tk) (hs _ A.sc) (by rw [A.sc]; exact sl.fn.imp (A.fn x) id)) fun D σ H ⟨ρ, R, q⟩ => ⟨ρ, R, Ps_step q fun p _ q1 H1 E1 R1 x b => ?_⟩
  split at q1
  · exact q1.elim
  · rename_i hio
    exact q1 _ H1 E1 (R1.set b hio)
/-! ### targets -/
abbrev Gx := D → Rho → Option Rho
abbrev Gxs := List D → Rho → Option Rho
/-- only the slots ts differ -/
def Chs (ts : List Nat) (σ σ' : L2.St) : Prop := σ'.length = σ.length ∧ ∀ j : Nat, j ∉ ts → σ'[j]? = σ[j]?
theorem Chs.refl (ts : List Nat) (σ : L2.St) : Chs ts σ σ := ⟨rfl, fun _ _ => rfl⟩
theorem Chs.trans {ts us : List Nat} {σ σ' σ'' : L2.St} (a : Chs ts σ σ') (b : Chs us σ' σ'') : Chs (ts ++ us) σ σ'' :=
  ⟨b.1.trans a.1, fun j hj => (b.2 j fun z => hj (List.mem_append_right _ z)).trans (a.2 j fun z => hj (List.mem_append_left _ z))⟩
def PsG (K : PySem.W.Frag) (g : Cf) (ts : List Nat) (σ : L2.St) (H : Hp) (Q : L2.St → Hp → Prop) : Option Rho → Prop
  | some ρ' => ∀ σ' H', Chs ts σ σ' → Ext H H' → ER K g ρ' σ' H' → Q σ' H'
  | _ => False
def tGx (K : PySem.W.Frag) (g : Cf) (ts : List Nat) (f : Gx) : TG := fun v σ H Q => ∃ ρ d, ER K g ρ σ H ∧ Imm K H d v ∧ PsG K g ts σ H Q (f d ρ)
def tGxs (K : PySem.W.Frag) (g : Cf) (ts : List Nat) (f : Gxs) : TGs := fun vs σ H Q => ∃ ρ ds, ER K g ρ σ H ∧ ImmL K H ds vs ∧ PsG K g ts σ H Q (f ds ρ)
def GOk (g : Cf) (e : Expr) (ts : List Nat) (f : Gx) : Prop := ∀ (X : Cx), At g X → PG X e (tGx X.K g ts f)
def GsOk (g : Cf) (es : List Expr) (ts : List Nat) (f : Gxs) : Prop := ∀ (X : Cx), At g X → PGs X es (tGxs X.K g ts f)
theorem PG.imp {X : Cx} {e : Expr} {t t' : TG} (h : PG X e t) (hi : ∀ v σ H Q, t' v σ H Q → t v σ H Q) : PG X e t' := ⟨fun pins s σ H v u Q I r q => h.run pins s σ H v u Q I r (hi v σ H Q q)⟩
theorem PGs.imp {X : Cx} {e : List Expr} {t t' : TGs} (h : PGs X e t) (hi : ∀ v σ H Q, t' v σ H Q → t v σ H Q) : PGs X e t' := ⟨fun pins s σ H v u Q I r q => h.run pins s σ H v u Q I r (hi v σ H Q q)⟩
theorem PG.or {X : Cx} {e : Expr} {t t' : TG} (h : PG X e t) (h' : PG X e t') : PG X e (fun v σ H Q => t v σ H Q ∨ t' v σ H Q) := ⟨fun pins s σ H v u Q I r q => by
  rcases q with q | q
  · exact h.run pins s σ H v u Q I r q
  · exact h'.run pins s σ H v u Q I r q⟩
def gNm (l : List Nat) (i : Nat) : Gx := fun d ρ => if i ∈ l then none else some (ρ.set i (some (.v d)))
theorem g_nm {i : Nat} {x : Str} (sl : Slot g x i) : GOk g (.Name x pos) [i] (gNm g.ios i) := fun X A => by
  refine PG.imp (pg_name (i := i) (by rw [A.N]; exact sl.nd) (by rw [A.N]; exact sl.ix) (by unfold L2.Loc; rw [A.sc]; exact sl.loc) (by rw [A.sc]; exact sl.fn.imp (A.fn x) id)) fun v σ H Q ⟨ρ, d, R, im, q⟩ => ?_
  unfold gNm at q
  split at q
  · exact q.elim
  · rename_i hio
    exact q _ H ⟨by rw [List.length_set], fun j hj => List.getElem?_set_ne (fun z => hj (by rw [← z]; exact List.mem_singleton_self _))⟩ (Ext.refl H) (R.set (s := .v d) im hio)
def gsNil : Gxs := fun ds ρ => match ds with
  | [] => some ρ
  | _ => none
def gsCons (f : Gx) (r : Gxs) : Gxs := fun ds ρ => match ds with
  | d :: ds => (f d ρ).bind fun ρ' => r ds ρ'
  | [] => none
theorem gs_nil : GsOk g [] [] gsNil := fun X A => PGs.imp pgs_nil fun vs σ H Q ⟨ρ, ds, R, im, q⟩ => by
  cases ds with
  | nil => exact ⟨im, q σ H (Chs.refl _ _) (Ext.refl H) R⟩
  | cons d ds => exact q.elim
theorem gs_cons {f : Gx} {r : Gxs} {ts us : List Nat} (h : GOk g e ts f) (hr : GsOk g es us r) (hs : ∀ env, (assignEach (e :: es) env).map (·.2) = assign e env :: (assignEach es env).map (·.2) := by intro _; rfl) : GsOk g (e :: es) (ts ++ us) (gsCons f r) := fun X A => by
  refine PGs.imp (pgs_cons (h X A) (hr X A) (hs _)) fun vs σ H Q ⟨ρ, ds, R, im, q⟩ => ?_
  cases ds with
  | nil => exact q.elim
  | cons d ds =>
    obtain ⟨v, r', e, im1, im2⟩ := im
    refine ⟨v, r', e, ρ, d, R, im1, ?_⟩
    simp only [gsCons] at q
    cases hf : f d ρ with
    | none => rw [hf] at q; exact q.elim
    | some ρ1 =>
      rw [hf] at q
      intro σ1 H1 C1 E1 R1
      refine ⟨ρ1, ds, R1, ImmL.ext E1 _ _ im2, ?_⟩
      simp only [Option.bind_some] at q
      cases hr : r ds ρ1 with
      | none => rw [hr] at q; exact q.elim
      | some ρ2 => rw [hr] at q; exact fun σ2 H2 C2 E2 R2 => q σ2 H2 (C1.trans C2) (E1.trans E2) R2
def gTp (n : Nat) (r : Gxs) : Gx := fun d ρ => match d with
  | .tup ds => if ds.length = n then r ds ρ else none
  | .lst ds => if ds.length = n then r ds ρ else none
  | _ => none
theorem g_tp {k n : Nat} {r : Gxs} {ts : List Nat} (h : GsOk g es ts r) (hn : ∀ env, (assignEach es env).length = n := by intro _; rfl) (hst : ∀ env, (assignEach es env).findIdx? (·.1) = none := by intro _; rfl) : GOk g (.Tuple es k pos) ts (gTp n r) := fun X A => by
  refine PG.imp (PG.or (pg_tup A.calm (h X A) (hn _) (hst _)) (pg_lst A.calm (h X A) (hn _) (hst _))) fun v σ H Q ⟨ρ, d, R, im, q⟩ => ?_
  unfold gTp at q
  cases d with
  | tup ds =>
    dsimp only at q
    split at q
    · rename_i hl
      obtain ⟨a, vs, e, s1, i1⟩ := im
      exact .inl ⟨a, vs, e, s1.seq, by rw [i1.len]; exact hl, ρ, ds, R, i1, q⟩
    · exact q.elim
  | lst ds =>
    dsimp only at q
    split at q
    · rename_i hl
      obtain ⟨a, vs, e, s1, i1⟩ := im
      exact .inr ⟨a, vs, e, s1.seq, by rw [i1.len]; exact hl, ρ, ds, R, i1, q⟩
    · exact q.elim
  | _ => exact q.elim
/-- target = e -/
def sAsg (l : List Nat) (f : Ex) (t : Gx) : Sx := fun ρ => eF l f ρ >>= fun p => liftO (t p.1 p.2) >>= fun ρ' => .ok (.next ρ')
theorem s_asg {tg : Expr} {f : Ex} {t : Gx} {ts : List Nat} (h : EOk g e f) (hg : GOk g tg ts t) (hs : ∀ env, swapsWithSole [tg] e pos.line env = pure false := by intro _; rfl) (hw : ∀ env, swappedStores [tg] e env = pure none := by intro _; rfl)
    (h1 : ∀ env, (assignEach [tg] env).map (·.2) = [assign tg env] := by intro _; rfl) : SOk g (.Assign [tg] e pos) (sAsg g.ios f t) := fun X W A tk => by
  refine PS.imp (ps_asg (h.f A.toAt tk) (hg X A.toAt) (hs _) (hw _) (h1 _)) fun D σ H ⟨ρ, R, q⟩ => ⟨ρ, R, Ps_step q fun p _ q1 H1 E1 R1 x im => ⟨p.2, p.1, R1, im, ?_⟩⟩
  obtain ⟨ρ2, ht, q2⟩ := q1.opt
  rw [ht]
  exact fun σ2 H2 _ E2 R2 => q2 σ2 H2 (E1.trans E2) R2
end
end PL

namespace PL
open PySem PySem.Spec PyProof.Rows L2
section
variable {g : Cf} {X : Cx} {e a b c tg : Expr} {es : List Expr} {pos : Pos} {K : PySem.W.Frag} {W : WX} {body orelse : List Stmt} {f h : Sx} {t : Tx}
/-! ### if -/
def sIf (t : Tx) (f h : Sx) : Sx := fun ρ => t ρ >>= fun p => if p.1 = true then f p.2 else h p.2
theorem s_if (hc : TOk g c t) (ha : SsOk g body f) (hb : SsOk g orelse h) : SOk g (.If c body orelse pos) (sIf t f h) := fun X W A tk => by
  refine PS.imp (ps_if (hc X W A.toAt tk) (ha X W A tk) (hb X W A tk)) fun D σ H ⟨ρ, R, q⟩ => ⟨ρ, R, Ps_step q fun p _ q1 H1 E1 R1 => ?_⟩
  cases hp : p.1 with
  | true => rw [hp] at q1; exact iteT ⟨p.2, R1, PsS.ext E1 q1⟩
  | false => rw [hp] at q1; exact iteF ⟨p.2, R1, PsS.ext E1 q1⟩
/-! ### loops -/
def aft (k : Sx) : Fl → Out Fl
  | .next ρ' => k ρ'
  | .cnt ρ' => k ρ'
  | .brk ρ' => .ok (.next ρ')
  | .ret s ρ' => .ok (.ret s ρ')
theorem aft_ps {H : Hp} {D : Ends} {r : Out Fl} {k : Sx} {N : L2.St → Hp → Prop} (q : PsS K g H W D (r >>= aft k)) (hN : ∀ ρ' σ' H', Ext H H' → ER K g ρ' σ' H' → PsS K g H' W D (k ρ') → N σ' H') : PsS K g H W { D with nx := N, ct := N, bk := D.nx } r := by
  cases r with
  | stuck => exact q.elim
  | exc c ρ1 => exact q
  | ok p =>
    cases p with
    | next ρ' => exact fun σ' H' x R => hN ρ' σ' H' x R (PsS.ext x q)
    | cnt ρ' => exact fun σ' H' x R => hN ρ' σ' H' x R (PsS.ext x q)
    | brk ρ' => exact q
    | ret s ρ' => exact q
def sWh (t : Tx) (f : Sx) : Nat → Sx
  | 0, _ => .stuck
  | n + 1, ρ => t ρ >>= fun p => if p.1 = true then f p.2 >>= aft (sWh t f n) else .ok (.next p.2)
theorem s_wh (n : Nat) (hc : TOk g c t) (hb : SsOk g body f) : SOk g (.While c body [] pos) (sWh t f n) := fun X W A tk => by
  refine PS.imp (ps_while A.own (hc X W A.toAt tk) (hb X W A tk)) fun D σ H ⟨ρ, R, q⟩ => ?_
  refine ⟨fun m σ H => ∃ ρ, ER X.K g ρ σ H ∧ PsS X.K g H W D (sWh t f m ρ), ⟨n, ρ, R, q⟩, ?_⟩
  rintro m σ H ⟨ρ, R, q⟩
  cases m with
  | zero => exact q.elim
  | succ m =>
    refine ⟨ρ, R, Ps_step q fun p _ q1 H1 E1 R1 => ?_⟩
    cases hp : p.1 with
    | false =>
      rw [hp] at q1
      exact iteF (q1 σ H1 E1 R1)
    | true =>
      rw [hp] at q1
      refine iteT ⟨fun σ' H' => ∃ ρ, ER X.K g ρ σ' H' ∧ PsS X.K g H' W D (sWh t f m ρ), fun σ' H' hN => ⟨m, Nat.lt_succ_self m, hN⟩, p.2, R1, ?_⟩
      exact aft_ps (PsS.ext E1 q1) fun ρ' σ' H' x R' q' => ⟨ρ', R', q'⟩
/-! ### what is walked -/
abbrev Ix := Rho → Out (List D × Rho)
def ItOk (K : PySem.W.Frag) (J : It) (ds : List D) (H : Hp) : Prop :=
  ∃ (G : Hp → Prop) (Y : Nat → Hp → V → Hp → Prop), Walk J ds.length G Y ∧ G H ∧ (∀ H1 H2, Ext H1 H2 → G H1 → G H2) ∧
    ∀ i H1 x H2, i < ds.length → G H1 → Y i H1 x H2 → Same H1 H2 ∧ ∃ d, ds[i]? = some d ∧ Imm K H2 d x
def tI (K : PySem.W.Frag) (g : Cf) (f : Ix) (W : WX) : TI := fun σ H R => ∃ ρ, ER K g ρ σ H ∧ Pst K g σ H W (fun p H' => ER K g p.2 σ H' → ∀ J, ItOk K J p.1 H' → R J H') (f ρ)
def IOk (g : Cf) (tg e : Expr) (f : Ix) : Prop := ∀ (X : Cx) (W : WX), At g X → Takes X W → PI X tg e (tI X.K g f W)
def lp (t : Gx) (f : Sx) : List D → Sx
  | [], ρ => .ok (.next ρ)
  | d :: ds, ρ => liftO (t d ρ) >>= fun ρ1 => f ρ1 >>= aft (lp t f ds)
def sFor (i : Ix) (t : Gx) (f : Sx) : Sx := fun ρ => i ρ >>= fun p => lp t f p.1 p.2
theorem s_for {i : Ix} {tx : Gx} {ts : List Nat} (hi : IOk g tg e i) (ht : GOk g tg ts tx) (hb : SsOk g body f) (hs : ∀ env x, foldedSetIterable e env x = pure x := by intro _ _; rfl) : SOk g (.For tg e body [] pos) (sFor i tx f) := fun X W A tk => by
  refine PS.imp (ps_for A.own A.calm (hi X W A.toAt tk) (ht X A.toAt) (hb X W A tk) (hs _)) fun D σ H ⟨ρ, R, q⟩ => ⟨ρ, R, Ps_step q fun p _ q1 H1 E1 R1 J it => ?_⟩
  obtain ⟨ds, ρ1⟩ := p
  obtain ⟨G, Y, w, g1, gs, y⟩ := it
  refine for_it w (fun i σ H => G H ∧ ∃ ρ, ER X.K g ρ σ H ∧ PsS X.K g H W D (lp tx f (ds.drop i) ρ)) ⟨g1, ρ1, R1, PsS.ext E1 q1⟩ (fun i σ H _ h => h.1) (fun i x σ2 H2 H3 hi h hy => ?_) (fun σ2 H2 h => ?_)
  · obtain ⟨g2, ρ2, R2, q2⟩ := h
    obtain ⟨sm, d, hd, im⟩ := y i H2 x H3 hi g2 hy
    have hdrop : ds.drop i = d :: ds.drop (i + 1) := by
      have e1 := List.drop_eq_getElem_cons hi
      rw [List.getElem?_eq_getElem hi] at hd
      rw [e1, Option.some.inj hd]
    rw [hdrop] at q2
    obtain ⟨ρ3, ht3, q3⟩ := q2.opt
    refine ⟨ρ2, d, R2.same sm, im, ?_⟩
    rw [ht3]
    intro σ4 H4 _ E4 R4
    refine ⟨ρ3, R4, aft_ps (PsS.ext ((Ext.of_same sm).trans E4) q3) fun ρ' σ' H' x R' q' => ⟨gs _ _ ((Ext.of_same sm).trans (E4.trans x)) g2, ρ', R', q'⟩⟩
  · obtain ⟨_, ρ2, R2, q2⟩ := h
    rw [List.drop_length] at q2
    exact q2 σ2 H2 (Ext.refl _) R2
/-! ### lists, tuples, texts, dicts' keys -/
theorem PI.or {X : Cx} {tg e : Expr} {t t' : TI} (h : PI X tg e t) (h' : PI X tg e t') : PI X tg e (fun σ H R => t σ H R ∨ t' σ H R) := ⟨fun pins s σ H R I q => by
  rcases q with q | q
  · exact h.run pins s σ H R I q
  · exact h'.run pins s σ H R I q⟩
def dIter : D → Option (List D)
  | .tup ds => some ds
  | .lst ds => some ds
  | .scr ns => some (ns.map .int)
  | .str z => some (z.cps.toList.map fun c => .str ⟨#[c]⟩)
  | .dic kvs => some (kvs.map (·.1))
  | _ => none
theorem walkImm {K : PySem.W.Frag} {ds : List D} {vs : List V} {G : Hp → Prop} (im : ∀ H, G H → ImmL K H ds vs) : ∀ i H1 x H2, i < ds.length → G H1 → YAt vs i H1 x H2 → Same H1 H2 ∧ ∃ d, ds[i]? = some d ∧ Imm K H2 d x := fun i H1 x H2 hi hg hy => by
  obtain ⟨rfl, h2⟩ := hy
  exact ⟨Same.refl _, (im H2 hg).get h2⟩
theorem it_tup {K : PySem.W.Frag} {H : Hp} {ds : List D} {vs : List V} {a : Addr} (h1 : TpT K H a vs) (h2 : ImmL K H ds vs) : ItOk K (Itt K a) ds H := by
  refine ⟨fun H => TpT K H a vs ∧ ImmL K H ds vs, YAt vs, ?_, ⟨h1, h2⟩, fun H1 H2 e g => ⟨e.sqT g.1, ImmL.ext e _ _ g.2⟩, walkImm fun H g => g.2⟩
  rw [← h2.len]
  exact walk_tup.mono (fun H g => g.1.seq) fun _ _ _ _ _ _ y => y
theorem it_lst {K : PySem.W.Frag} {H : Hp} {ds : List D} {vs : List V} {a : Addr} (h1 : FzL K H a vs) (h2 : ImmL K H ds vs) : ItOk K (Itl K a) ds H := by
  refine ⟨fun H => FzL K H a vs ∧ ImmL K H ds vs, YAt vs, ?_, ⟨h1, h2⟩, fun H1 H2 e g => ⟨e.fzL g.1, ImmL.ext e _ _ g.2⟩, walkImm fun H g => g.2⟩
  rw [← h2.len]
  exact walk_list.mono (fun H g => g.1.seq) fun _ _ _ _ _ _ y => y
theorem it_scr {K : PySem.W.Frag} {H : Hp} {ns : List Int} {a : Addr} (h1 : ScrL K H a (ns.map V.int)) : ItOk K (Itl K a) (ns.map .int) H := by
  refine ⟨fun H => ScrL K H a (ns.map V.int), YAt (ns.map V.int), ?_, h1, fun H1 H2 e g => e.scrL g, walkImm fun H g => immL_map_int ns⟩
  have := (walk_list (K := K) (a := a) (xs := ns.map V.int)).mono (G' := fun H => ScrL K H a (ns.map V.int)) (fun H g => g.seq) fun _ _ _ _ _ _ y => y
  rw [List.length_map] at this ⊢
  exact this
theorem it_str {K : PySem.W.Frag} {H : Hp} {z : Str} : ItOk K (Its z) (z.cps.toList.map fun c => .str ⟨#[c]⟩) H := by
  refine ⟨fun _ => True, fun i H v H' => H' = H ∧ ∃ c, z.cps[i]? = some c ∧ v = .str ⟨#[c]⟩, ?_, trivial, fun _ _ _ g => g, fun i H1 x H2 hi _ hy => ?_⟩
  · have := walk_str (z := z)
    rw [List.length_map, Array.length_toList]
    exact this
  · obtain ⟨rfl, c, h1, rfl⟩ := hy
    refine ⟨Same.refl _, .str ⟨#[c]⟩, ?_, rfl⟩
    rw [List.getElem?_map, Array.getElem?_toList, h1]
    rfl
theorem immK_get {K : PySem.W.Frag} {H : Hp} : ∀ {kvs : List (D × D)} {kws : List (Key × V)} {i : Nat} {k : Key} {v : V}, ImmK K H kvs kws → kws[i]? = some (k, v) → ∃ kd d, kvs[i]? = some (kd, d) ∧ keyD kd = some k ∧ Imm K H d v
  | [], _, _, _, _, h, e => by cases (show _ = _ from h); simp at e
  | (kd, d) :: ds, _, 0, k, x, ⟨kk, v, r, e1, h0, h1, h2⟩, e => by subst e1; simp at e; obtain ⟨rfl, rfl⟩ := e; exact ⟨kd, d, rfl, h0, h1⟩
  | (kd, d) :: ds, _, i + 1, k, x, ⟨kk, v, r, e1, h0, h1, h2⟩, e => by
    subst e1
    obtain ⟨kd', d', h3, h4⟩ := immK_get (i := i) (k := k) (v := x) h2 (by simpa using e)
    exact ⟨kd', d', by simpa using h3, h4⟩
theorem immK_len {K : PySem.W.Frag} {H : Hp} : ∀ {ds : List (D × D)} {vs : List (Key × V)}, ImmK K H ds vs → vs.length = ds.length
  | [], _, h => by cases (show _ = _ from h); rfl
  | (_, d) :: ds, _, ⟨_, v, r, e1, _, h1, h2⟩ => by rw [e1, List.length_cons, List.length_cons, immK_len h2]
theorem imm_key {K : PySem.W.Frag} {H : Hp} {d : D} {k : Key} (h : keyD d = some k) : Imm K H d (kV k) := by
  cases d <;> cases h <;> rfl
theorem immL_keys {K : PySem.W.Frag} {H : Hp} : ∀ {ds : List D} {ks : List Key}, keysD ds = some ks → ImmL K H ds (ks.map kV)
  | [], _, h => by cases h; rfl
  | d :: ds, ks, h => by
    unfold keysD at h
    cases h1 : keyD d with
    | none => rw [h1] at h; cases h
    | some k =>
      rw [h1] at h
      cases h2 : keysD ds with
      | none => rw [h2] at h; cases h
      | some ks' =>
        rw [h2] at h
        cases h
        exact ⟨_, _, rfl, imm_key h1, immL_keys h2⟩
theorem immT_get {K : PySem.W.Frag} {H : Hp} : ∀ {kvs : List (D × D)} {kws : List (List Key × V)} {i : Nat} {k : List Key} {v : V}, ImmT K H kvs kws → kws[i]? = some (k, v) → ∃ kd d, kvs[i]? = some (.tup kd, d) ∧ keysD kd = some k ∧ Imm K H d v
  | [], _, _, _, _, h, e => by cases (show _ = _ from h); simp at e
  | (.tup kd, d) :: ds, _, 0, k, x, ⟨kk, v, r, e1, h0, h1, h2⟩, e => by subst e1; simp at e; obtain ⟨rfl, rfl⟩ := e; exact ⟨kd, d, rfl, h0, h1⟩
  | (.tup kd, d) :: ds, _, i + 1, k, x, ⟨kk, v, r, e1, h0, h1, h2⟩, e => by
    subst e1
    obtain ⟨kd', d', h3, h4⟩ := immT_get (i := i) (k := k) (v := x) h2 (by simpa using e)
    exact ⟨kd', d', by simpa using h3, h4⟩
  | (.non, _) :: _, _, _, _, _, h, _ => h.elim
  | (.bl _, _) :: _, _, _, _, _, h, _ => h.elim
  | (.int _, _) :: _, _, _, _, _, h, _ => h.elim
  | (.str _, _) :: _, _, _, _, _, h, _ => h.elim
  | (.lst _, _) :: _, _, _, _, _, h, _ => h.elim
  | (.dic _, _) :: _, _, _, _, _, h, _ => h.elim
  | (.scr _, _) :: _, _, _, _, _, h, _ => h.elim
theorem immT_len {K : PySem.W.Frag} {H : Hp} : ∀ {ds : List (D × D)} {vs : List (List Key × V)}, ImmT K H ds vs → vs.length = ds.length
  | [], _, h => by cases (show _ = _ from h); rfl
  | (.tup _, d) :: ds, _, ⟨_, v, r, e1, _, h1, h2⟩ => by rw [e1, List.length_cons, List.length_cons, immT_len h2]
  | (.non, _) :: _, _, h => h.elim
  | (.bl _, _) :: _, _, h => h.elim
  | (.int _, _) :: _, _, h => h.elim
  | (.str _, _) :: _, _, h => h.elim
  | (.lst _, _) :: _, _, h => h.elim
  | (.dic _, _) :: _, _, h => h.elim
  | (.scr _, _) :: _, _, h => h.elim
theorem it_dk {K : PySem.W.Frag} {H : Hp} {kvs : List (D × D)} {kws : List (Key × V)} {a : Addr} {o : Obj} (h1 : H a = some (.frz o (.dK kws))) (h2 : ImmK K H kvs kws) : ItOk K (Itk a o kws) (kvs.map (·.1)) H := by
  refine ⟨fun H => H a = some (.frz o (.dK kws)) ∧ ImmK K H kvs kws, fun i H x H' => H' = H ∧ ∃ k v, kws[i]? = some (k, v) ∧ x = kV k, ?_, ⟨h1, h2⟩, fun H1 H2 e g => ⟨e.frz g.1, ImmK.ext e _ _ g.2⟩, fun i H1 x H2 hi hg hy => ?_⟩
  · have w := (walk_keys (d := a) (o := o) (kvs := kws)).mono (G' := fun H => H a = some (.frz o (.dK kws)) ∧ ImmK K H kvs kws) (fun H g => g.1) fun _ _ _ _ _ _ y => y
    rw [List.length_map, ← immK_len h2]
    exact w
  · obtain ⟨rfl, k, v, h3, rfl⟩ := hy
    obtain ⟨kd, d, h4, h5, _⟩ := immK_get hg.2 h3
    exact ⟨Same.refl _, kd, by rw [List.getElem?_map, h4]; rfl, imm_key h5⟩
theorem it_dt {K : PySem.W.Frag} {H : Hp} {kvs : List (D × D)} {kws : List (List Key × V)} {a : Addr} {o : Obj} (h1 : H a = some (.frz o (.dT kws))) (h2 : ImmT K H kvs kws) : ItOk K (Itkt a o kws) (kvs.map (·.1)) H := by
  refine ⟨fun H => H a = some (.frz o (.dT kws)) ∧ ImmT K H kvs kws, fun i H x H' => H' = H ∧ ∃ (k : List Key) (v : V) (q : Addr), kws[i]? = some (k, v) ∧ x = .ref q ∧ H q = some (.tup (k.map kV)), ?_, ⟨h1, h2⟩, fun H1 H2 e g => ⟨e.frz g.1, ImmT.ext e _ _ g.2⟩, fun i H1 x H2 hi hg hy => ?_⟩
  · have w := (walk_keysT (d := a) (o := o) (kvs := kws)).mono (G' := fun H => H a = some (.frz o (.dT kws)) ∧ ImmT K H kvs kws) (fun H g => g.1) fun _ _ _ _ _ _ y => y
    rw [List.length_map, ← immT_len h2]
    exact w
  · obtain ⟨rfl, k, v, q, h3, rfl, h6⟩ := hy
    obtain ⟨kd, d, h4, h5, _⟩ := immT_get hg.2 h3
    exact ⟨Same.refl _, .tup kd, by rw [List.getElem?_map, h4]; rfl, q, _, rfl, TpT.of h6, immL_keys h5⟩
def iVal (l : List Nat) (f : Ex) : Ix := fun ρ => eF l f ρ >>= fun p => liftO (dIter p.1) >>= fun ds => .ok (ds, p.2)
theorem i_val {f : Ex} (h : EOk g e f) : IOk g tg e (iVal g.ios f) := fun X W A tk => by
  have hf := h.f A tk
  refine PI.imp (PI.or (pi_list hf) (PI.or (pi_tup hf) (PI.or (pi_str hf) (pi_keys hf)))) fun σ H Q ⟨ρ, R, q⟩ => ?_
  have key : ∀ {Q1 : VK}, (∀ d ρ1 x H1, ER X.K g ρ1 σ H1 → Imm X.K H1 d x → (∀ ds, dIter d = some ds → ∀ J, ItOk X.K J ds H1 → Q J H1) → (∃ ds, dIter d = some ds) → (∃ ρ0, eF g.ios f ρ = .ok (d, ρ0)) → Q1 x H1) → tF X.K g f W σ H Q1 := fun {Q1} hk => by
    refine ⟨ρ, R, ?_⟩
    unfold iVal at q
    cases hf : eF g.ios f ρ with
    | stuck => rw [hf] at q; exact q.elim
    | exc c ρ1 => rw [hf] at q; exact q
    | ok p =>
      rw [hf] at q
      intro H1 E1 R1 x im
      obtain ⟨ds, hd, q2⟩ := q.opt
      exact hk p.1 p.2 x H1 R1 im (fun ds' e' J it => by rw [hd] at e'; cases e'; exact q2 H1 E1 R1 J it) ⟨ds, hd⟩ ⟨p.2, hf⟩
  cases hf2 : eF g.ios f ρ with
  | stuck => unfold iVal at q; rw [hf2] at q; exact q.elim
  | exc c ρ1 => exact .inl (key fun d ρ1 x H1 R1 im hJ hd ⟨ρ0, h0⟩ => by rw [hf2] at h0; cases h0)
  | ok p =>
    obtain ⟨d0, ρ0'⟩ := p
    have same : ∀ {d ρ0}, eF g.ios f ρ = .ok (d, ρ0) → d = d0 := fun {d ρ0} h0 => by rw [hf2] at h0; cases h0; rfl
    cases d0 with
    | lst ds =>
      refine .inl (key fun d ρ1 x H1 R1 im hJ hd ⟨ρ0, h0⟩ => ?_)
      cases same h0
      obtain ⟨a, vs, rfl, s1, i1⟩ := im
      exact ⟨a, rfl, ⟨vs, s1.seq⟩, hJ ds rfl _ (it_lst s1 i1)⟩
    | scr ns =>
      refine .inl (key fun d ρ1 x H1 R1 im hJ hd ⟨ρ0, h0⟩ => ?_)
      cases same h0
      obtain ⟨a, rfl, s1⟩ := im
      exact ⟨a, rfl, ⟨_, s1.seq⟩, hJ _ rfl _ (it_scr s1)⟩
    | tup ds =>
      refine .inr (.inl (key fun d ρ1 x H1 R1 im hJ hd ⟨ρ0, h0⟩ => ?_))
      cases same h0
      obtain ⟨a, vs, rfl, s1, i1⟩ := im
      exact ⟨a, rfl, ⟨vs, s1.seq⟩, hJ ds rfl _ (it_tup s1 i1)⟩
    | str z =>
      refine .inr (.inr (.inl (key fun d ρ1 x H1 R1 im hJ hd ⟨ρ0, h0⟩ => ?_)))
      cases same h0
      exact ⟨z, im, hJ _ rfl _ it_str⟩
    | dic kvs =>
      refine .inr (.inr (.inr (key fun d ρ1 x H1 R1 im hJ hd ⟨ρ0, h0⟩ => ?_)))
      cases same h0
      obtain ⟨a, o, rfl, ⟨kws, h1, h2⟩ | ⟨kws, h1, h2⟩⟩ := im
      · exact ⟨a, o, rfl, .inl ⟨kws, h1, hJ _ rfl _ (it_dk h1 h2)⟩⟩
      · exact ⟨a, o, rfl, .inr ⟨kws, h1, hJ _ rfl _ (it_dt h1 h2)⟩⟩
    | _ => exact .inl (key fun d ρ1 x H1 R1 im hJ hd ⟨ρ0, h0⟩ => by cases same h0; obtain ⟨ds, hd⟩ := hd; cases hd)
/-! ### range -/
def rgD (lo : Int) (n : Nat) : List D := (List.range n).map fun k : Nat => .int (lo + k)
theorem it_rg {K : PySem.W.Frag} {H : Hp} {lo : Int} {n : Nat} : ItOk K (Itr lo n) (rgD lo n) H := by
  refine ⟨fun _ => True, YFn fun i => .int (lo + i), ?_, trivial, fun _ _ _ g => g, fun i H1 x H2 hi _ hy => ?_⟩
  · have w := walk_range (lo := lo) (n := n)
    rw [rgD, List.length_map, List.length_range]
    exact w
  · obtain ⟨rfl, rfl⟩ := hy
    rw [rgD, List.length_map, List.length_range] at hi
    refine ⟨Same.refl _, .int (lo + i), ?_, rfl⟩
    rw [rgD, List.getElem?_map, List.getElem?_range hi]
    rfl
def int1 : List D → Option Int
  | [.int j] => if -4611686018427387904 ≤ j ∧ j < 4611686018427387904 then some j else none
  | _ => none
def int2 : List D → Option (Int × Int)
  | [.int i, .int j] => if -4611686018427387904 ≤ i ∧ i < 4611686018427387904 ∧ -4611686018427387904 ≤ j ∧ j < 4611686018427387904 then some (i, j) else none
  | _ => none
def iRg1 (fa : Ax) : Ix := fun ρ => fa ρ >>= fun p => pkL p.2 p.1 >>= fun ds => liftO (int1 ds) >>= fun j => .ok (rgD 0 j.toNat, p.2)
def iRg2 (fa : Ax) : Ix := fun ρ => fa ρ >>= fun p => pkL p.2 p.1 >>= fun ds => liftO (int2 ds) >>= fun j => .ok (rgD j.1 (j.2 - j.1).toNat, p.2)
theorem i_rg1 {p : Pos} {fa : Ax} (hm : g.mg "range" = none) (ha : AOk g [a] fa) (hg : Glo g "range" := by rfl) (hs : ∀ env, starEach [a] env = [(false, eval a env)] := by intro _; rfl) : IOk g tg (.Call (.Name "range" p) [a] [] pos) (iRg1 fa) := fun X W A tk => by
  refine PI.imp (pi_range1 (hg.gl A) (by rw [A.mg]; exact hm) (ha X W A tk) (hs _)) fun σ H Q ⟨ρ, R, q⟩ => tA_step R q fun ss ρ1 xs H1 R1 E1 n1 q1 => ?_
  obtain ⟨ds, h1, q3⟩ := q1.pkL
  obtain ⟨j, ho, q5⟩ := q3.opt
  have pr := pkL_rd R1 n1 h1
  match ds, ho with
  | [.int j'], ho =>
    obtain ⟨x, rfl, r⟩ := pair1 pr
    simp only [int1] at ho
    split at ho
    · rename_i hz
      cases ho
      exact ⟨j, by rw [r.int], hz.1, hz.2, q5 H1 (Ext.refl _) R1 _ it_rg⟩
    · cases ho
theorem i_rg2 {p : Pos} {fa : Ax} (hm : g.mg "range" = none) (ha : AOk g [a, b] fa) (hg : Glo g "range" := by rfl) (hs : ∀ env, starEach [a, b] env = [(false, eval a env), (false, eval b env)] := by intro _; rfl) (hs2 : ∀ env, starEach [b] env = [(false, eval b env)] := by intro _; rfl) :
    IOk g tg (.Call (.Name "range" p) [a, b] [] pos) (iRg2 fa) := fun X W A tk => by
  refine PI.imp (pi_range2 (hg.gl A) (by rw [A.mg]; exact hm) (ha X W A tk) (hs _) (hs2 _)) fun σ H Q ⟨ρ, R, q⟩ => tA_step R q fun ss ρ1 xs H1 R1 E1 n1 q1 => ?_
  obtain ⟨ds, h1, q3⟩ := q1.pkL
  obtain ⟨j, ho, q5⟩ := q3.opt
  have pr := pkL_rd R1 n1 h1
  match ds, ho with
  | [.int i', .int j'], ho =>
    obtain ⟨x, y, rfl, r, r'⟩ := pair2 pr
    simp only [int2] at ho
    split at ho
    · rename_i hz
      cases ho
      exact ⟨i', j', by rw [r.int, r'.int], hz, q5 H1 (Ext.refl _) R1 _ it_rg⟩
    · cases ho
end
end PL

namespace PL
open PySem PySem.Spec PyProof.Rows L2
/-! ### slots forgotten -/
def wipeE (ρ : Rho) : List Nat → Rho
  | [] => ρ
  | v :: vs => (wipeE ρ vs).set v none
theorem wipe_get (σ : L2.St) (j : Nat) : ∀ vs : List Nat, (wipe σ vs)[j]? = if j ∈ vs then (if j < σ.length then some none else none) else σ[j]?
  | [] => by simp [wipe]
  | v :: vs => by
    unfold wipe
    have ih := wipe_get σ j vs
    by_cases hj : v = j
    · subst hj
      rw [if_pos List.mem_cons_self]
      by_cases hl : v < σ.length
      · rw [if_pos hl, List.getElem?_set_self (by rw [wipe_length]; exact hl)]
      · rw [if_neg hl, List.getElem?_eq_none (by rw [List.length_set, wipe_length]; omega)]
    · rw [List.getElem?_set_ne hj, ih]
      have : (j ∈ v :: vs) ↔ j ∈ vs := by
        rw [List.mem_cons]
        exact ⟨fun h => h.elim (fun z => (hj z.symm).elim) id, .inr⟩
      simp only [this]
theorem wipeE_len (ρ : Rho) : ∀ vs : List Nat, (wipeE ρ vs).length = ρ.length
  | [] => rfl
  | v :: vs => by unfold wipeE; rw [List.length_set, wipeE_len ρ vs]
theorem wipeE_get (ρ : Rho) (j : Nat) : ∀ vs : List Nat, (wipeE ρ vs)[j]? = if j ∈ vs then (if j < ρ.length then some none else none) else ρ[j]?
  | [] => by simp [wipeE]
  | v :: vs => by
    unfold wipeE
    have ih := wipeE_get ρ j vs
    by_cases hj : v = j
    · subst hj
      rw [if_pos List.mem_cons_self]
      by_cases hl : v < ρ.length
      · rw [if_pos hl, List.getElem?_set_self (by rw [wipeE_len]; exact hl)]
      · rw [if_neg hl, List.getElem?_eq_none (by rw [List.length_set, wipeE_len]; omega)]
    · rw [List.getElem?_set_ne hj, ih]
      have : (j ∈ v :: vs) ↔ j ∈ vs := by
        rw [List.mem_cons]
        exact ⟨fun h => h.elim (fun z => (hj z.symm).elim) id, .inr⟩
      simp only [this]
theorem wipeE_some {ρ : Rho} {j : Nat} {s : S} {vs : List Nat} (h : (wipeE ρ vs)[j]? = some (some s)) : j ∉ vs ∧ ρ[j]? = some (some s) := by
  rw [wipeE_get] at h
  split at h
  · split at h <;> cases h
  · rename_i hj; exact ⟨hj, h⟩
theorem wipe_chs {ts vs : List Nat} {σ σ' : L2.St} (c : Chs ts σ σ') (h : ∀ i ∈ ts, i ∈ vs) : wipe σ' vs = wipe σ vs := by
  apply List.ext_getElem?
  intro j
  rw [wipe_get, wipe_get, c.1]
  by_cases hj : j ∈ vs
  · rw [if_pos hj, if_pos hj]
  · rw [if_neg hj, if_neg hj, c.2 j fun z => hj (h j z)]
theorem wipe_wipe (σ : L2.St) (vs : List Nat) : wipe (wipe σ vs) vs = wipe σ vs := by
  apply List.ext_getElem?
  intro j
  rw [wipe_get, wipe_get, wipe_length]
  by_cases hj : j ∈ vs
  · rw [if_pos hj, if_pos hj]
  · rw [if_neg hj, if_neg hj]
section
variable {g : Cf} {X : Cx} {K : PySem.W.Frag}
theorem ER.wipe {σ : L2.St} {H : Hp} {ρ : Rho} {vs : List Nat} (R : ER K g ρ σ H) (hio : ∀ i ∈ vs, i ∉ g.ios) : ER K g (wipeE ρ vs) (L2.wipe σ vs) H := by
  have sg : ∀ j, j ∉ vs → (L2.wipe σ vs)[j]? = σ[j]? := fun j hj => by rw [wipe_get, if_neg hj]
  refine ⟨by rw [wipeE_len, wipe_length]; exact R.len, fun j d h => ?_, fun j d h => ?_, fun j m h => ?_, fun j m d d' a h1 h2 h3 h4 => ?_, R.old, fun j d a h1 h2 => ?_, fun p hp => ?_⟩
  · obtain ⟨hj, h⟩ := wipeE_some h
    rw [sg j hj]
    exact R.val j d h
  · obtain ⟨hj, h⟩ := wipeE_some h
    rw [sg j hj]
    exact R.own j d h
  · obtain ⟨hj, h⟩ := wipeE_some h
    exact R.bor j m h
  · obtain ⟨hj, h1⟩ := wipeE_some h1
    obtain ⟨hm, h2⟩ := wipeE_some h2
    rw [sg j hj] at h3
    rw [sg m hm] at h4
    exact R.sep j m d d' a h1 h2 h3 h4
  · obtain ⟨hj, h1⟩ := wipeE_some h1
    rw [sg j hj] at h2
    exact R.new j d a h1 h2
  · obtain ⟨h1, d, h2⟩ := R.io p hp
    have hj : p.1 ∉ vs := fun z => hio _ z (List.mem_map.mpr ⟨p, hp, rfl⟩)
    rw [sg _ hj]
    refine ⟨h1, d, ?_⟩
    rw [wipeE_get, if_neg hj]
    exact h2
theorem own_wipe {σ : L2.St} {ρ : Rho} {vs : List Nat} {a : Addr} (h : Own (wipeE ρ vs) (L2.wipe σ vs) a) : Own ρ σ a := by
  obtain ⟨i, d, h1, h2⟩ := h
  obtain ⟨hi, h1⟩ := wipeE_some h1
  rw [wipe_get, if_neg hi] at h2
  exact ⟨i, d, h1, h2⟩
/-- what stood ahead of a block and is none of the names' own -/
noncomputable def hold (ρ : Rho) (σ : L2.St) (H : Hp) : Hp := fun a => open Classical in if Own ρ σ a then none else H a
theorem hold_own {ρ : Rho} {σ : L2.St} {H : Hp} {a : Addr} (h : Own ρ σ a) : hold ρ σ H a = none := by unfold hold; rw [if_pos h]
theorem hold_not {ρ : Rho} {σ : L2.St} {H : Hp} {a : Addr} (h : ¬ Own ρ σ a) : hold ρ σ H a = H a := by unfold hold; rw [if_neg h]
theorem ER.rebase {σ : L2.St} {H : Hp} {ρ : Rho} (R : ER K g ρ σ H) (g' : Cf) (h0 : g'.H0 = hold ρ σ H) (hi : g'.io = g.io) : ER K g' ρ σ H where
  len := R.len
  val := R.val
  own := R.own
  bor := R.bor
  sep := R.sep
  old := fun a o h _ => by
    rw [h0] at h
    by_cases ho : Own ρ σ a
    · rw [hold_own ho] at h; cases h
    · rw [hold_not ho] at h; exact h
  new := fun i d a h1 h2 => .inl (by rw [h0]; exact hold_own ⟨i, d, h1, h2⟩)
  io := by rw [hi]; exact R.io
theorem ER.back {σ σ2 : L2.St} {H H2 : Hp} {ρ ρ2 : Rho} (R : ER K g ρ σ H) {g' : Cf} (h0 : g'.H0 = hold ρ σ H) (hi : g'.io = g.io) (R2 : ER K g' ρ2 σ2 H2) : ER K g ρ2 σ2 H2 where
  len := R2.len
  val := R2.val
  own := R2.own
  bor := R2.bor
  sep := R2.sep
  old := fun a o h hp => by
    refine R2.old a o ?_ (by rw [hi]; exact hp)
    have no : ¬ Own ρ σ a := fun ⟨i, d, h1, h2⟩ => by
      rcases R.new i d a h1 h2 with z | z
      · rw [h] at z; cases z
      · exact hp _ z rfl
    rw [h0, hold_not no]
    exact R.old a o h hp
  new := fun i d a h1 h2 => by
    rcases R2.new i d a h1 h2 with z | z
    · rw [h0] at z
      by_cases ho : Own ρ σ a
      · obtain ⟨j, e, h3, h4⟩ := ho
        rcases R.new j e a h3 h4 with y | y
        · exact .inl y
        · have y' := y
          rw [← hi] at y'
          obtain ⟨h5, e', h6⟩ := R2.io _ y'
          have := R2.sep i j d e' a h1 h6 h2 h5
          subst this
          exact .inr y
      · rw [hold_not ho] at z
        exact .inl (not_old R z)
    · rw [hi] at z; exact .inr z
  io := by have := R2.io; rw [hi] at this; exact this
/-! ### a comprehension's block -/
noncomputable def Cf.blk (g : Cf) (scope : Scope) (H0 : Hp) : Cf := { g with sc := relS scope g.sc, fn := fun x => scope.names.lookup x == some .cell, H0 := H0 }
theorem At.blk (A : At g X) {scope : Scope} {s : Shared} {H H0 : Hp} {C : Addr} {cl : List (Str × Addr)} {fp : List Addr} : At (g.blk scope H0) (X.blk s H scope (compEnvC scope cl C X.env) fp) where
  prog := A.prog
  w := A.w
  K := A.K
  mg := A.mg
  base := A.base
  N := A.N
  sc := by
    show (compEnvC scope cl C X.env).scope = _
    show relS scope X.env.scope = relS scope g.sc
    rw [A.sc]
  fn := fun x h => h
  room := A.room
  calm := A.calm
end
def nox {α : Type} : Out α → Out α
  | .ok a => .ok a
  | _ => .stuck
/-- the names of the block as they were ahead of it, the others as it leaves them -/
def unwipe (vs : List Nat) (ρ : Rho) (ρ' : Rho) : Rho := match vs with
  | [] => ρ'
  | v :: vs => (unwipe vs ρ ρ').set v (match ρ[v]? with
    | some (some (.v d)) => some (.v d)
    | _ => none)
theorem unwipe_len (ρ ρ' : Rho) : ∀ vs : List Nat, (unwipe vs ρ ρ').length = ρ'.length
  | [] => rfl
  | v :: vs => by unfold unwipe; rw [List.length_set, unwipe_len ρ ρ' vs]
theorem unwipe_some {ρ ρ' : Rho} {j : Nat} {s : S} : ∀ {vs : List Nat}, (unwipe vs ρ ρ')[j]? = some (some s) → (j ∉ vs ∧ ρ'[j]? = some (some s)) ∨ (j ∈ vs ∧ ρ[j]? = some (some s) ∧ ∃ d, s = .v d)
  | [], h => .inl ⟨by simp, h⟩
  | v :: vs, h => by
    unfold unwipe at h
    by_cases hj : v = j
    · subst hj
      right
      by_cases hl : v < (unwipe vs ρ ρ').length
      · rw [List.getElem?_set_self hl] at h
        split at h
        · rename_i d hd
          cases h
          exact ⟨List.mem_cons_self, hd, d, rfl⟩
        · cases h
      · rw [List.getElem?_eq_none (by rw [List.length_set]; omega)] at h; cases h
    · rw [List.getElem?_set_ne hj] at h
      rcases unwipe_some h with ⟨h1, h2⟩ | ⟨h1, h2⟩
      · exact .inl ⟨fun z => (List.mem_cons.mp z).elim (fun z => hj z.symm) h1, h2⟩
      · exact .inr ⟨List.mem_cons_of_mem _ h1, h2⟩
theorem unwipe_out {ρ ρ' : Rho} {j : Nat} : ∀ {vs : List Nat}, j ∉ vs → (unwipe vs ρ ρ')[j]? = ρ'[j]?
  | [], _ => rfl
  | v :: vs, h => by
    unfold unwipe
    rw [List.getElem?_set_ne (fun z => h (by rw [z]; exact List.mem_cons_self)), unwipe_out fun z => h (List.mem_cons_of_mem _ z)]
section
variable {g : Cf} {X : Cx} {K : PySem.W.Frag}
theorem ER.unwipe {σ : L2.St} {H H' : Hp} {ρ ρ' : Rho} {vs : List Nat} (R : ER K g ρ σ H) (R' : ER K g ρ' (L2.wipe σ vs) H') (e : Ext H H') (hio : ∀ i ∈ vs, i ∉ g.ios) : ER K g (PL.unwipe vs ρ ρ') σ H' := by
  have sg : ∀ j, j ∉ vs → (L2.wipe σ vs)[j]? = σ[j]? := fun j hj => by rw [wipe_get, if_neg hj]
  refine ⟨by rw [unwipe_len, R'.len, wipe_length], fun j d h => ?_, fun j d h => ?_, fun j m h => ?_, fun j m d d' a h1 h2 h3 h4 => ?_, R'.old, fun j d a h1 h2 => ?_, fun p hp => ?_⟩
  · rcases unwipe_some h with ⟨hj, h⟩ | ⟨hj, h, _⟩
    · have := R'.val j d h
      rw [sg j hj] at this
      exact this
    · obtain ⟨x, h1, h2⟩ := R.val j d h
      exact ⟨x, h1, Imm.ext e _ _ h2⟩
  · rcases unwipe_some h with ⟨hj, h⟩ | ⟨hj, h, _, z⟩
    · have := R'.own j d h
      rw [sg j hj] at this
      exact this
    · cases z
  · rcases unwipe_some h with ⟨hj, h⟩ | ⟨hj, h, _, z⟩
    · exact R'.bor j m h
    · cases z
  · rcases unwipe_some h1 with ⟨hj, h1⟩ | ⟨_, _, _, z⟩
    · rcases unwipe_some h2 with ⟨hm, h2⟩ | ⟨_, _, _, z⟩
      · rw [← sg j hj] at h3
        rw [← sg m hm] at h4
        exact R'.sep j m d d' a h1 h2 h3 h4
      · cases z
    · cases z
  · rcases unwipe_some h1 with ⟨hj, h1⟩ | ⟨_, _, _, z⟩
    · rw [← sg j hj] at h2
      exact R'.new j d a h1 h2
    · cases z
  · obtain ⟨h1, d, h2⟩ := R'.io p hp
    have hj : p.1 ∉ vs := fun z => hio _ z (List.mem_map.mpr ⟨p, hp, rfl⟩)
    rw [sg _ hj] at h1
    exact ⟨h1, d, by rw [unwipe_out hj]; exact h2⟩
theorem own_unwipe {σ : L2.St} {ρ ρ' : Rho} {vs : List Nat} {a : Addr} (h : Own (PL.unwipe vs ρ ρ') σ a) : Own ρ' (L2.wipe σ vs) a := by
  obtain ⟨i, d, h1, h2⟩ := h
  rcases unwipe_some h1 with ⟨hj, h⟩ | ⟨_, _, _, z⟩
  · exact ⟨i, d, h, by rw [wipe_get, if_neg hj]; exact h2⟩
  · cases z
end
section
variable {g : Cf} {X : Cx} {e a b c tg elt iter : Expr} {ifs : List Expr} {pos : Pos} {W : WX}
def tsNo : Tx := fun ρ => .ok (true, ρ)
def TsOk (g : Cf) (es : List Expr) (f : Tx) : Prop := ∀ (X : Cx) (W : WX), At g X → Takes X W → PTs X es (tT X.K g f W)
theorem ts_no : TsOk g [] tsNo := fun X W A tk => ⟨fun pins s σ H Q I ⟨ρ, R, q⟩ => pts_nil.run pins s σ H Q I (q H (Ext.refl H) R)⟩
theorem ts_one {t : Tx} (h : TOk g c t) : TsOk g [c] t := fun X W A tk => pts_one (h X W A tk)
def lcLp (l vs : List Nat) (ft : Gx) (tt : Tx) (fe : Ex) : List D → Rho → List D → Out (List D × Rho)
  | [], ρ, acc => .ok (acc, ρ)
  | d :: ds, ρ, acc => liftO (ft d ρ) >>= fun ρ1 => tt ρ1 >>= fun p =>
      if p.1 = true then eF l fe p.2 >>= fun q => if acc.length < 16777216 then lcLp l vs ft tt fe ds (wipeE q.2 vs) (acc ++ [q.1]) else .stuck
      else lcLp l vs ft tt fe ds (wipeE p.2 vs) acc
def eLc (l vs : List Nat) (fi : Ix) (ft : Gx) (tt : Tx) (fe : Ex) : Ex := fun ρ => fi ρ >>= fun p => if (∀ i ∈ vs, i ∉ l) then nox (lcLp l vs ft tt fe p.1 (wipeE p.2 vs) []) >>= fun q => .ok (.o (.lst q.1), unwipe vs p.2 q.2) else .stuck
theorem nox_ok {α : Type} {r : Out α} {a : α} (h : nox r = .ok a) : r = .ok a := by cases r <;> cases h; rfl
theorem nox_noexc {α : Type} {r : Out α} {c : Str} {ρ : Rho} (h : nox r = .exc c ρ) : False := by cases r <;> cases h
theorem bind_is {α β : Type} {r : Out α} {k : α → Out β} {b : β} (h : (r >>= k) = .ok b) : ∃ a, r = .ok a ∧ k a = .ok b := by
  cases r with
  | stuck => cases h
  | exc c ρ => cases h
  | ok a => exact ⟨a, rfl, h⟩
theorem liftO_is {α : Type} {o : Option α} {b : α} (h : liftO o = .ok b) : o = some b := by
  cases o with
  | none => cases h
  | some a => cases h; rfl
/-- the heart of a comprehension's reading -/
theorem read_lc {scope : Scope} {own : List (Str × Nat)} {ts vs : List Nat} {fi : Ix} {ft : Gx} {tt : Tx} {fe : Ex} (A : At g X) (hts : ∀ i ∈ ts, i ∈ vs) {σ : L2.St} {H : Hp} {Q : VK} {tgt : TG} {ttt : TT} {tte : TE}
    (hg : ∀ {v σ2 H2 Q} {H0 : Hp}, tGx X.K (g.blk scope H0) ts ft v σ2 H2 Q → tgt v σ2 H2 Q)
    (ht : ∀ {σ2 H2 Q} {H0 : Hp}, tT X.K (g.blk scope H0) tt (fun _ _ _ _ => False) σ2 H2 Q → ttt σ2 H2 Q)
    (he : ∀ {σ2 H2 Q} {H0 : Hp}, tF X.K (g.blk scope H0) fe (fun _ _ _ _ => False) σ2 H2 Q → tte σ2 H2 Q)
    (t : tE X.K g (eLc g.ios vs fi ft tt fe) W σ H Q) : tLc (tI X.K g fi W) tgt ttt tte vs σ H Q := by
  obtain ⟨ρ, R, q⟩ := t
  refine ⟨ρ, R, ?_⟩
  unfold eLc at q
  cases hf : fi ρ with
  | stuck => rw [hf] at q; exact q.elim
  | exc c ρ1 => rw [hf] at q; exact q
  | ok p =>
    obtain ⟨ds, ρ1⟩ := p
    rw [hf] at q
    simp only [bind_ok] at q
    split at q
    case isFalse => exact q.elim
    rename_i hio
    cases hl : nox (lcLp g.ios vs ft tt fe ds (wipeE ρ1 vs) []) with
    | stuck => rw [hl] at q; exact q.elim
    | exc c ρ' => exact (nox_noexc hl).elim
    | ok r =>
      rw [hl] at q
      obtain ⟨out, ρ9⟩ := r
      have hl := nox_ok hl
      intro H1 E1 R1 J it D hD
      obtain ⟨G, Y, w, g1, gs, y⟩ := it
      have smD : Same H1 (upd H1 D (.lst [])) := new_tup (K := X.K) hD
      refine lc_it w (fun i H2 => G H2 ∧ Ext H1 H2 ∧ ∃ ρi acc vacc, ER X.K g ρi (wipe σ vs) H2 ∧ ¬ Own ρi (wipe σ vs) D ∧ H2 D = some (.lst vacc) ∧ ImmL X.K H2 acc vacc ∧ lcLp g.ios vs ft tt fe (ds.drop i) ρi acc = .ok (out, ρ9)) ?_ (fun i H2 _ h => h.1) (fun i x H2 H3 hi h hy => ?_) (fun H2 h => ?_)
      · refine ⟨gs _ _ (Ext.of_same smD) g1, Ext.of_same smD, wipeE ρ1 vs, [], [], (R1.wipe hio).same smD, fun o => not_own R1 hD (own_wipe o), upd_same, rfl, hl⟩
      · obtain ⟨g2, E2, ρi, acc, vacc, Ri, no, hDi, im, hl2⟩ := h
        obtain ⟨sm, d, hd, imd⟩ := y i H2 x H3 hi g2 hy
        have hdrop : ds.drop i = d :: ds.drop (i + 1) := by
          have e1 := List.drop_eq_getElem_cons hi
          rw [List.getElem?_eq_getElem hi] at hd
          rw [e1, Option.some.inj hd]
        rw [hdrop] at hl2
        obtain ⟨ρ2, h2, hl3⟩ := bind_is hl2
        have h2 := liftO_is h2
        obtain ⟨p, h3, hl4⟩ := bind_is hl3
        have Ri3 := Ri.same sm
        have hD3 : H3 D = some (.lst vacc) := sm _ _ hDi
        have Rb : ER X.K (g.blk scope (hold ρi (wipe σ vs) H3)) ρi (wipe σ vs) H3 := Ri3.rebase _ rfl rfl
        have hH0 : hold ρi (wipe σ vs) H3 D = some (.lst vacc) := by rw [hold_not no]; exact hD3
        have notio : ∀ p ∈ g.io, p.2 ≠ D := fun p hp z => by
          obtain ⟨h5, d', h6⟩ := Ri3.io p hp
          exact no ⟨p.1, d', h6, by rw [h5, z]⟩
        -- what a state of the block tells
        have fin : ∀ {ρ4 : Rho} {σ4 : L2.St} {H4 : Hp}, ER X.K (g.blk scope (hold ρi (wipe σ vs) H3)) ρ4 σ4 H4 → Ext H3 H4 → Chs ts (wipe σ vs) σ4 →
            H4 D = some (.lst vacc) ∧ ER X.K g (wipeE ρ4 vs) (wipe σ vs) H4 ∧ ¬ Own (wipeE ρ4 vs) (wipe σ vs) D ∧ G H4 ∧ Ext H1 H4 := fun {ρ4 σ4 H4} R4 E4 C4 => by
          have k1 : H4 D = some (.lst vacc) := R4.old D _ hH0 notio
          have k2 := (Ri3.back (g' := g.blk scope (hold ρi (wipe σ vs) H3)) rfl rfl R4).wipe hio
          have k3 : wipe σ4 vs = wipe σ vs := by rw [wipe_chs C4 hts, wipe_wipe]
          rw [k3] at k2
          refine ⟨k1, k2, fun o => ?_, gs _ _ ((Ext.of_same sm).trans E4) g2, E2.trans ((Ext.of_same sm).trans E4)⟩
          rw [← k3] at o
          obtain ⟨j, d', o1, o2⟩ := own_wipe o
          rcases R4.new j d' D o1 o2 with z | z
          · have z : hold ρi (wipe σ vs) H3 D = none := z
            rw [hH0] at z; cases z
          · exact notio _ z rfl
        refine hg (H0 := hold ρi (wipe σ vs) H3) ⟨ρi, d, Rb, imd, ?_⟩
        rw [h2]
        intro σ4 H4 C4 E4 R4
        refine ⟨by rw [wipe_chs C4 hts, wipe_wipe], ht (H0 := hold ρi (wipe σ vs) H3) ⟨ρ2, R4, ?_⟩⟩
        rw [h3]
        intro H5 E5 R5
        obtain ⟨b, ρ5⟩ := p
        cases b with
        | false =>
          obtain ⟨k1, k2, k3, k4, k5⟩ := fin R5 (E4.trans E5) C4
          refine iteF ⟨k4, k5, _, acc, vacc, k2, k3, k1, ImmL.ext ((Ext.of_same sm).trans (E4.trans E5)) _ _ im, hl4⟩
        | true =>
          obtain ⟨r, h6, hl5⟩ := bind_is hl4
          refine iteT (he (H0 := hold ρi (wipe σ vs) H3) ⟨ρ5, R5, ?_⟩)
          have h6' : eF (g.blk scope (hold ρi (wipe σ vs) H3)).ios fe ρ5 = .ok r := h6
          rw [h6']
          intro H6 E6 R6 v6 im6
          obtain ⟨k1, k2, k3, k4, k5⟩ := fin R6 ((E4.trans E5).trans E6) C4
          split at hl5
          case isFalse => cases hl5
          rename_i hlen
          have im' := ImmL.ext ((Ext.of_same sm).trans ((E4.trans E5).trans E6)) _ _ im
          refine ⟨vacc, k1, by rw [im.len, sizeLine_eq]; exact hlen, ?_⟩
          have x7 : Ext H6 (upd H6 D (.lst (vacc ++ [v6]))) := fun b ob hb => by
            by_cases hba : b = D
            · subst hba
              rw [k1] at hb; cases hb
              exact ⟨fun xs e => (by cases e), fun _ _ e => (by cases e)⟩
            · exact ⟨fun _ _ => by rw [upd_ne hba]; exact hb, fun _ _ _ => by rw [upd_ne hba]; exact hb⟩
          have h0D : g.H0 D = none := not_old R1 hD
          refine ⟨gs _ _ x7 k4, k5.trans x7, _, acc ++ [r.1], vacc ++ [v6], k2.but (a := D) x7 (fun b ob hb hh => by rw [upd_ne hb]; exact hh) k3 h0D, k3, upd_same, (ImmL.ext x7 _ _ im').snoc (Imm.ext x7 _ _ im6), hl5⟩
      · obtain ⟨g2, E2, ρi, acc, vacc, Ri, no, hDi, im, hl2⟩ := h
        rw [List.drop_length] at hl2
        cases hl2
        have R9 := R1.unwipe Ri E2 hio
        exact q H2 (E1.trans E2) R9 _ ⟨D, rfl, ⟨vacc, hDi, im⟩, fun o => no (own_unwipe o), not_old R1 hD⟩
theorem e_lc {scope : Scope} {own : List (Str × Nat)} {ts vs : List Nat} {fi : Ix} {ft : Gx} {tt : Tx} {fe : Ex} (nd : g.N.Nodup) (ok : blkC g.N g.sc scope own = true) (hvs : own.map (·.2) = vs) (hts : (ts.all fun i => vs.contains i) = true) (hi : IOk g tg iter fi)
    (hg : ∀ H0, GOk (g.blk scope H0) tg ts ft) (ht : ∀ H0, TsOk (g.blk scope H0) ifs tt) (he : ∀ H0, EOk (g.blk scope H0) elt fe) (hs : ∀ env x, foldedSetIterable iter env x = pure x := by intro _ _; rfl) :
    EOk g (.ListComp elt [⟨tg, iter, ifs, 0⟩] scope pos) (eLc g.ios vs fi ft tt fe) := fun X W A tk => by
  subst hvs
  have hts' : ∀ i ∈ ts, i ∈ own.map (·.2) := fun i hi => by simpa using List.all_eq_true.mp hts i hi
  have key := pe_lc (g := fun v σ H Q => ∃ H0, tGx X.K (g.blk scope H0) ts ft v σ H Q) (tt := fun σ H Q => ∃ H0, tT X.K (g.blk scope H0) tt (fun _ _ _ _ => False) σ H Q) (te := fun σ H Q => ∃ H0, tF X.K (g.blk scope H0) fe (fun _ _ _ _ => False) σ H Q)
    (own := own) (scope := scope) (pos := pos) A.calm (by rw [A.N]; exact nd) (hi X W A tk) (by rw [A.N, A.sc]; exact blkOk_by ok)
    (fun s H C cl fp => ⟨fun pins s σ H v u Q I r ⟨H0, q⟩ => ((hg H0) _ A.blk).run pins s σ H v u Q I r q⟩)
    (fun s H C cl fp => ⟨fun pins s σ H Q I ⟨H0, q⟩ => ((ht H0) _ _ A.blk takes0).run pins s σ H Q I q⟩)
    (fun s H C cl fp => ⟨fun pins s σ H Q I ⟨H0, q⟩ => ((he H0).f A.blk takes0).run pins s σ H Q I q⟩) (hs _)
  exact PE.imp key fun σ H Q t => read_lc (scope := scope) (own := own) A hts' (fun {v σ2 H2 Q H0} h => ⟨H0, h⟩) (fun {σ2 H2 Q H0} h => ⟨H0, h⟩) (fun {σ2 H2 Q H0} h => ⟨H0, h⟩) t
/-- y = [..] on one line -/
theorem s_lc {x : Str} {i : Nat} {py spos : Pos} {scope : Scope} {own : List (Str × Nat)} {ts vs : List Nat} {fi : Ix} {ft : Gx} {tt : Tx} {fe : Ex} (sl : Slot g x i) (hloc : g.sc.names.lookup x = some .local) (hline : (py.line == pos.line) = true) (hown : (scope.names.any fun (n, k) => n == x && (k == .local || k == .cell)) = false)
    (hkind : g.sc.kind = .function) (ok : blkC g.N g.sc scope own = true) (hvs : own.map (·.2) = vs) (hts : (ts.all fun i => vs.contains i) = true) (hi : IOk g tg iter fi)
    (hg : ∀ H0, GOk (g.blk scope H0) tg ts ft) (ht : ∀ H0, TsOk (g.blk scope H0) ifs tt) (he : ∀ H0, EOk (g.blk scope H0) elt fe) (hs : ∀ env x, foldedSetIterable iter env x = pure x := by intro _ _; rfl) :
    SOk g (.Assign [.Name x py] (.ListComp elt [⟨tg, iter, ifs, 0⟩] scope pos) spos) (sSet g.ios i (eLc g.ios vs fi ft tt fe)) := fun X W A tk => by
  subst hvs
  have hts' : ∀ i ∈ ts, i ∈ own.map (·.2) := fun i hi => by simpa using List.all_eq_true.mp hts i hi
  have key := ps_setLc (i := i) (y := x) (py := py) (spos := spos) (g := fun v σ H Q => ∃ H0, tGx X.K (g.blk scope H0) ts ft v σ H Q) (tt := fun σ H Q => ∃ H0, tT X.K (g.blk scope H0) tt (fun _ _ _ _ => False) σ H Q) (te := fun σ H Q => ∃ H0, tF X.K (g.blk scope H0) fe (fun _ _ _ _ => False) σ H Q)
    (own := own) (scope := scope) (pos := pos) A.calm (by rw [A.N]; exact sl.nd) (by rw [A.N]; exact sl.ix) (by rw [A.sc]; exact hloc) (sw_true (by rw [A.sc]; exact hkind) (by rw [A.sc]; exact hloc) hline hown) (hi X W A.toAt tk) (by rw [A.N, A.sc]; exact blkOk_by ok)
    (fun s H C cl fp => ⟨fun pins s σ H v u Q I r ⟨H0, q⟩ => ((hg H0) _ A.toAt.blk).run pins s σ H v u Q I r q⟩)
    (fun s H C cl fp => ⟨fun pins s σ H Q I ⟨H0, q⟩ => ((ht H0) _ _ A.toAt.blk takes0).run pins s σ H Q I q⟩)
    (fun s H C cl fp => ⟨fun pins s σ H Q I ⟨H0, q⟩ => ((he H0).f A.toAt.blk takes0).run pins s σ H Q I q⟩) (hs _)
  refine PS.imp key fun D σ H ⟨ρ, R, q⟩ => ?_
  refine read_lc (scope := scope) (own := own) (W := W) A.toAt hts' (fun {v σ2 H2 Q H0} h => ⟨H0, h⟩) (fun {σ2 H2 Q H0} h => ⟨H0, h⟩) (fun {σ2 H2 Q H0} h => ⟨H0, h⟩) ⟨ρ, R, ?_⟩
  unfold sSet eBd at q
  cases hf : eLc g.ios (own.map (·.2)) fi ft tt fe ρ with
  | stuck => rw [hf] at q; exact q.elim
  | exc c ρ1 => rw [hf] at q; exact fun cls H' R' x m => q cls σ H' x R' m
  | ok p =>
    obtain ⟨s, ρ1⟩ := p
    rw [hf] at q
    have hso : ∃ d, s = .o d := by
      unfold eLc at hf
      obtain ⟨p1, _, h2⟩ := bind_is hf
      split at h2
      · obtain ⟨p3, _, h4⟩ := bind_is h2
        cases h4
        exact ⟨_, rfl⟩
      · cases h2
    obtain ⟨d, rfl⟩ := hso
    intro H1 E1 R1 x sr
    have q : PsS X.K g H W D (if i ∈ g.ios then .stuck else .ok (.next (ρ1.set i (some (.o d))))) := q
    split at q
    · exact q.elim
    · rename_i hio
      exact q _ H1 E1 (R1.set (s := .o d) sr hio)
end
end PL

namespace PL
open PySem PySem.Spec PyProof.Rows L2
/-! ### defs -/
abbrev Fn := List D → Out S
def spF (K : PySem.W.Frag) (mg : Str → Option Value) (n : Nat) (F : Fn) : Sp := fun vs H Q E => ∃ ds : List D, ds.length = n ∧ ImmL K H ds vs ∧ (match F ds with
  | .ok s => ∀ H' x, Same H H' → RS K H H' s x → Q x H'
  | .exc c _ => ∀ cls H', Same H H' → mg c = some cls → E cls none H'
  | .stuck => False)
def rhoV (m : Nat) (ds : List D) : Rho := ds.map (fun d => some (.v d)) ++ List.replicate m none
def endF : Fl → Out S
  | .ret s _ => .ok s
  | .next _ => .ok (.v .non)
  | _ => .stuck
def runF (m : Nat) (f : Sx) : Fn := fun ds => f (rhoV m ds) >>= endF
theorem immL_all {K : PySem.W.Frag} {H : Hp} {ds : List D} {vs : List V} (h : ImmL K H ds vs) {m : Nat} (i : Nat) (d : D) (e : (rhoV m ds)[i]? = some (some (.v d))) : ∃ x, vs[i]? = some x ∧ Imm K H d x := by
  unfold rhoV at e
  rcases Nat.lt_or_ge i ds.length with hi | hi
  · rw [List.getElem?_append_left (by simpa using hi)] at e
    rw [List.getElem?_map] at e
    cases hd : ds[i]? with
    | none => rw [hd] at e; cases e
    | some d' => rw [hd] at e; cases e; exact h.get' hd
  · rw [List.getElem?_append_right (by simpa using hi)] at e
    rw [List.getElem?_replicate] at e
    split at e <;> cases e
theorem rhoV_v {m : Nat} {ds : List D} {i : Nat} {s : S} (e : (rhoV m ds)[i]? = some (some s)) : ∃ d, s = .v d := by
  unfold rhoV at e
  rcases Nat.lt_or_ge i ds.length with hi | hi
  · rw [List.getElem?_append_left (by simpa using hi)] at e
    rw [List.getElem?_map] at e
    cases hd : ds[i]? with
    | none => rw [hd] at e; cases e
    | some d' => rw [hd] at e; cases e; exact ⟨_, rfl⟩
  · rw [List.getElem?_append_right (by simpa using hi)] at e
    rw [List.getElem?_replicate] at e
    split at e <;> cases e
theorem start_er {K : PySem.W.Frag} {g : Cf} {H : Hp} {ds : List D} {vs : List V} {n m : Nat} (h : ImmL K H ds vs) (hl : ds.length = n) (hm : g.N.length = n + m) (h0 : g.H0 = H) (hio : g.io = []) : ER K g (rhoV m ds) (L2.start g.N vs) H where
  len := by simp only [rhoV, L2.start, List.length_append, List.length_map, List.length_replicate, h.len, hl, hm]; omega
  val := fun i d e => by
    obtain ⟨x, h1, h2⟩ := immL_all h i d e
    refine ⟨x, ?_, h2⟩
    unfold L2.start
    have hi : i < vs.length := by
      rcases Nat.lt_or_ge i vs.length with z | z
      · exact z
      · rw [List.getElem?_eq_none z] at h1; cases h1
    rw [List.getElem?_append_left (by simpa using hi), List.getElem?_map, h1]; rfl
  own := fun i d e => by obtain ⟨d', z⟩ := rhoV_v e; cases z
  bor := fun i j e => by obtain ⟨d', z⟩ := rhoV_v e; cases z
  sep := fun i j d d' a e => by obtain ⟨d', z⟩ := rhoV_v e; cases z
  old := fun a o h _ => by rw [← h0]; exact h
  new := fun i d a e => by obtain ⟨d', z⟩ := rhoV_v e; cases z
  io := fun p hp => by rw [hio] at hp; cases hp
theorem br_rs {K : PySem.W.Frag} {g : Cf} {H H' : Hp} {s : S} {x : V} (h0 : g.H0 = H) (b : BR K g [] [] H' s x) : RS K H H' s x := by
  cases s with
  | v d => exact b
  | o d => obtain ⟨a, h1, h2, _, h4⟩ := b; exact ⟨a, h1, by rw [← h0]; exact h4, h2⟩
  | b i => exact b.elim
/-- a def by its body -/
theorem fn_ok {P : Program} {w : World} {K : PySem.W.Frag} {mg : Str → Option Value} {base : Heap} {x qual : Str} {st : Stmt} {fa : Addr} {fd : FuncData} {N ps : List Str} {k n m : Nat} {f : Sx} (F : L2.Fun K x qual st fa fd) (S : FnScope N ps (defScope st)) (hn : ps.length = n) (hm : N.length = n + m)
    (hb : ∀ H0, SsOk ⟨P, w, K, mg, base, N, defScope st, fun _ => true, k, H0, []⟩ (defBody st) f) : FnOk P w K mg base (L2.CX P w) (k + 1) fa fd ps (spF K mg n (runF m f)) := by
  refine F.okX S (fun vs H Q E ⟨ds, h1, h2, _⟩ => by rw [h2.len, h1, hn]) (fun cdv A outer s H vs Q E hr ⟨ds, h1, h2, h3⟩ => ?_)
  have AA : AtS ⟨P, w, K, mg, base, N, defScope st, fun _ => true, k, H, []⟩ (cxOf (L2.CX P w) P w K mg base N qual (defScope st) fa cdv A outer s H E) :=
    { prog := rfl, w := rfl, K := rfl, mg := rfl, base := rfl, N := rfl, sc := rfl, fn := fun _ _ => rfl, room := hr, calm := rfl, own := passes_of rfl, stk := rfl, fr := rfl }
  refine ⟨_, hb H _ (fun cls d _ H' => E cls d H') AA (takes_of rfl rfl rfl rfl), ⟨rhoV m ds, start_er h2 h1 hm rfl rfl, ?_⟩⟩
  have same : ∀ {ρ' σ' H'}, ER K ⟨P, w, K, mg, base, N, defScope st, fun _ => true, k, H, []⟩ ρ' σ' H' → Same H H' := fun {ρ' σ' H'} R a o e => R.old a o e (fun p hp => by cases hp)
  unfold runF at h3
  cases hf : f (rhoV m ds) with
  | stuck => rw [hf] at h3; exact h3.elim
  | exc c ρ1 => rw [hf] at h3; exact fun cls σ' H' _ R hm => h3 cls H' (same R) hm
  | ok r =>
    rw [hf] at h3
    cases r with
    | next ρ' => exact fun σ' H' _ R => h3 H' .non (same R) rfl
    | ret z ρ' => exact fun σ' H' y _ R b => h3 H' y (same R) (br_rs rfl b)
    | brk ρ' => exact h3.elim
    | cnt ρ' => exact h3.elim
/-- a def that may be called by its name -/
structure Cal (g : Cf) (x : Str) (n : Nat) (F : Fn) : Prop where
  ex : ∃ (f : Addr) (fd : FuncData) (ps : List Str), FnOk g.prog g.w g.K g.mg g.base (L2.CX g.prog g.w) g.k f fd ps (spF g.K g.mg n F) ∧ g.mg x = some (.ref f) ∧ PySem.W.keepIn g.K (.ref f) = true ∧ Binds g.K fd ps []
def atR (ρ : Rho) : Out S → Out (S × Rho)
  | .ok s => .ok (s, ρ)
  | .exc c _ => .exc c ρ
  | .stuck => .stuck
def eCall (l : List Nat) (n : Nat) (F : Fn) (fa : Ax) : Ex := fun ρ => aF l fa ρ >>= fun p => if p.1.length = n then atR p.2 (F p.1) else .stuck
section
variable {g : Cf} {X : Cx} {e a b c : Expr} {es : List Expr} {pos : Pos} {K : PySem.W.Frag} {W : WX}
theorem e_call {x : Str} {p : Pos} {n : Nat} {F : Fn} {fa : Ax} (hc : Cal g x n F) (ha : AOk g (e :: es) fa) (hg : Glo g x := by rfl) (hdb : (x == ("__debug__" : Str)) = false := by decide)
    (he : ∀ env, starEach (e :: es) env = (false, eval e env) :: starEach es env := by intro _; rfl) (hpl : ∀ env, (backTo pos (starEach es env)).any (·.1) = false := by intro _; rfl) : EOk g (.Call (.Name x p) (e :: es) [] pos) (eCall g.ios n F fa) := fun X W A tk => by
  obtain ⟨f, fd, ps, h1, h2, h3, h4⟩ := hc.ex
  have h1' : FnOk X.prog X.w X.K X.mg X.base (L2.CX X.prog X.w) g.k f fd ps (spF X.K X.mg n F) := by rw [A.prog, A.w, A.K, A.mg, A.base]; exact h1
  refine PE.imp (pe_callS h1' A.room (hg.gl A) (by rw [A.mg]; exact h2) (by rw [A.K]; exact h3) (by rw [A.K]; exact h4) (fun σ => passAt tk σ) (ha.f A tk) hdb (he _) (hpl _)) fun σ H Q ⟨ρ, R, q⟩ => ?_
  refine tAF_step R q fun ds ρ1 vs H1 R1 E1 im q1 => ?_
  split at q1
  case isFalse => exact q1.elim
  rename_i hl
  refine ⟨ds, hl, im, ?_⟩
  cases hF : F ds with
  | stuck => rw [hF] at q1; exact q1.elim
  | exc c ρ' => rw [hF] at q1; exact fun cls H' sm hm => q1 cls H' (R1.same sm) (Ext.of_same sm) (by rw [← A.mg]; exact hm)
  | ok s => rw [hF] at q1; exact fun H' y sm rs => q1 H' (Ext.of_same sm) (R1.same sm) y (rs.sr R1)
/-! ### raise -/
/-- an exception class of the program's own -/
structure Exc (g : Cf) (c : Str) : Prop where
  ex : ∃ C : Addr, PySem.W.excIn g.K C [.type "ValueError", .type "Exception", .type "BaseException", .type "object"] "ValueError.__new__" = true ∧ g.mg c = some (.ref C) ∧ PySem.W.keepIn g.K (.ref C) = true ∧ PySem.W.subIn g.K (.ref C) (.type "BaseException") = some true ∧ PySem.W.typeIn g.K (.ref C) = some (.type "type")
def sRaise (c : Str) : Sx := fun ρ => .exc c ρ
theorem s_raise {x m : Str} {j : Nat} {p p2 p3 : Pos} (h : Exc g x) (hg : Glo g x := by rfl) (hdb : (x == ("__debug__" : Str)) = false := by decide) : SOk g (.Raise (some (.Call (.Name x p) [.Constant (.str m) j p2] [] p3)) none pos) (sRaise x) := fun X W A tk => by
  obtain ⟨C, h1, h2, h3, h4, h5⟩ := h.ex
  rw [← A.K] at h1 h3 h4 h5
  refine PS.imp (ps_raise A.calm tk (pmk_own PySem.F.excBase_ValueError h1 (by rw [A.mg]; exact h2) h3 (raises_own h4 h5) (hg.gl A.toAt) hdb)) fun D σ H ⟨ρ, R, q⟩ => ?_
  exact q _ σ H (Ext.refl H) R h2
/-! ### try -/
/-- the class x in an except clause: which classes it catches -/
structure Cat (g : Cf) (x : Str) (tab : List (Str × Bool)) : Prop where
  ex : ∃ cv : Value, ((x == ("__debug__" : Str)) = false ∧ (g.mg x = some cv ∨ (g.mg x = none ∧ bootBuiltins x = some cv ∧ x ≠ "__name__"))) ∧ ∀ c b, (c, b) ∈ tab → ∃ C, g.mg c = some (.ref C) ∧ PySem.W.exmOne g.K (.ref C) cv = some b
/-- isinstance(an exception, x): for which classes -/
structure IsE (g : Cf) (x : Str) (tab : List (Str × Bool)) : Prop where
  ex : ∃ (v : V) (cv : Value), RelV v cv ∧ (∀ u, RelV v u → u = cv) ∧ (x == ("__debug__" : Str)) = false ∧ (g.mg x = some cv ∨ (g.mg x = none ∧ bootBuiltins x = some cv ∧ x ≠ "__name__")) ∧ ∀ c b, (c, b) ∈ tab → ∃ C, g.mg c = some (.ref C) ∧ ExcC g.K C ∧ PySem.W.kitOne g.K (.ref C) cv = some b
abbrev Hx := Str → Option D
def look (tab : List (Str × Bool)) (c : Str) : Option Bool := (tab.find? fun p => p.1 = c).map (·.2)
theorem look_mem {tab : List (Str × Bool)} {c : Str} {b : Bool} (h : look tab c = some b) : (c, b) ∈ tab := by
  unfold look at h
  cases hf : tab.find? (fun p => p.1 = c) with
  | none => rw [hf] at h; cases h
  | some p =>
    rw [hf] at h
    cases h
    have h1 := List.find?_some hf
    have h2 := List.mem_of_find?_eq_some hf
    obtain ⟨p1, p2⟩ := p
    have h3 : p1 = c := by simpa using h1
    rw [← h3]
    exact h2
def HOk (g : Cf) (n : Str) (i : Nat) (e : Expr) (h : Hx) : Prop := ∀ (X : Cx), At g X → ∀ (a : Addr) (oe : Obj) (cls : Value) (pn : List (Addr × Obj)) (c : Str), Zc cls none oe → (∃ vs, oe.data = .fields vs) → g.mg c = some cls →
  PE (X.suite a ((a, oe) :: pn)) e (fun σ H Q => (n = "" ∨ σ[i]? = some (some (.ref a))) ∧ ∃ d, h c = some d ∧ ∀ x H', Same H H' → Imm X.K H' d x → Q x H')
def hC (d : D) : Hx := fun _ => some d
theorem h_bl {n : Str} {i : Nat} {k : Bool} {j : Nat} : HOk g n i (.Constant (.bool k) j pos) (hC (.bl k)) := fun X A a oe cls pn c hz hf hm => PE.imp pe_bl fun σ H Q ⟨_, d, h, q⟩ => by cases h; exact q _ H (Same.refl H) rfl
theorem h_str {n : Str} {i : Nat} {k : Str} {j : Nat} : HOk g n i (.Constant (.str k) j pos) (hC (.str k)) := fun X A a oe cls pn c hz hf hm => PE.imp pe_str fun σ H Q ⟨_, d, h, q⟩ => by cases h; exact q _ H (Same.refl H) rfl
theorem h_non {n : Str} {i : Nat} {j : Nat} : HOk g n i (.Constant .none j pos) (hC .non) := fun X A a oe cls pn c hz hf hm => PE.imp pe_non fun σ H Q ⟨_, d, h, q⟩ => by cases h; exact q _ H (Same.refl H) rfl
def hIs (tab : List (Str × Bool)) : Hx := fun c => (look tab c).map .bl
theorem h_isi {n x : Str} {i : Nat} {p p1 p2 : Pos} {tab : List (Str × Bool)} (h : IsE g x tab) (hN : g.N[i]? = some n) (hn : n ≠ "" := by decide) (hmi : g.mg "isinstance" = none) (hg : Glo g "isinstance" := by rfl) (hgx : Glo g x := by rfl) (hv : Vis g.sc n := by first | exact Or.inl rfl | exact Or.inr (Or.inl rfl) | exact Or.inr (Or.inr rfl)) (hd : (n == ("__debug__" : Str)) = false := by decide) (hcd : (n == ("__classdict__" : Str)) = false := by decide) :
    HOk g n i (.Call (.Name "isinstance" p) [.Name n p1, .Name x p2] [] pos) (hIs tab) := fun X A a oe cls pn c hz hf hm => by
  obtain ⟨v, cv, rv, ru, hdb, hx, ht⟩ := h.ex
  have hN' : (X.suite a ((a, oe) :: pn)).N[i]? = some n := by show X.N[i]? = _; rw [A.N]; exact hN
  have hv' : Vis (X.suite a ((a, oe) :: pn)).env.scope n := by show Vis X.env.scope n; unfold Vis; rw [A.sc]; exact hv
  have hGx : Gl X x := hgx.gl A
  have hGi : Gl X "isinstance" := hg.gl A
  have pn1 : PE (X.suite a ((a, oe) :: pn)) (.Name n p1) (tVar i) := pe_var hN' hv' hd hcd
  have px : PE (X.suite a ((a, oe) :: pn)) (.Name x p2) (tC v) := by
    rcases hx with hx | ⟨hx1, hx2, hx3⟩
    · exact pe_glob (X := X.suite a ((a, oe) :: pn)) hGx (by show X.mg x = _; rw [A.mg]; exact hx) rv hdb
    · exact pe_bltn (X := X.suite a ((a, oe) :: pn)) hGx (by show X.mg x = _; rw [A.mg]; exact hx1) hx2 rv hx3 hdb
  refine ⟨fun pins s σ H Q I ⟨hs, d, hh, q⟩ => ?_⟩
  unfold hIs at hh
  cases hl : look tab c with
  | none => rw [hl] at hh; cases hh
  | some b =>
    rw [hl] at hh
    cases hh
    obtain ⟨C, hm2, hE, hk⟩ := ht c b (look_mem hl)
    rw [hm] at hm2
    cases hm2
    have hE' : ExcC X.K C := by rw [A.K]; exact hE
    have hk' : PySem.W.kitOne X.K (.ref C) cv = some b := by rw [A.K]; exact hk
    refine (pe_callB (call_isE hE' hz hf) hGi (by show X.mg _ = _; rw [A.mg]; exact hmi) (by decide +kernel) (pa_cons pn1 (pa_cons px pa_nil)) (by decide) (by decide)).run pins s σ H Q I ?_
    refine ⟨.ref a, hs.resolve_left hn, v, cv, b, rfl, ru, hk', q _ H (Same.refl H) rfl⟩
def hAnd (h1 h2 : Hx) : Hx := fun c => match h1 c with
  | some (.bl true) => h2 c
  | some (.bl false) => some (.bl false)
  | _ => none
def hNot (h1 : Hx) : Hx := fun c => match h1 c with
  | some (.bl k) => some (.bl (!k))
  | _ => none
theorem h_one {n : Str} {i : Nat} {op : BoolOp} {h : Hx} (h1 : HOk g n i a h) : HOk g n i (.BoolOp op [a] pos) h := fun X A a oe cls pn c hz hf hm => pe_one (h1 X A a oe cls pn c hz hf hm)
theorem h_and {n : Str} {i : Nat} {rest : List Expr} {h h' : Hx} (h1 : HOk g n i a h) (h2 : HOk g n i (.BoolOp .And (b :: rest) pos) h') : HOk g n i (.BoolOp .And (a :: b :: rest) pos) (hAnd h h') := fun X A ad oe cls pn c hz hf hm => by
  refine PE.imp (pe_and (h1 X A ad oe cls pn c hz hf hm) (h2 X A ad oe cls pn c hz hf hm)) fun σ H Q ⟨hs, d, hh, q⟩ => ?_
  unfold hAnd at hh
  split at hh
  · rename_i k1
    refine ⟨hs, _, k1, fun x H' sm im => ⟨true, im, ?_⟩⟩
    exact iteT ⟨hs, d, hh, fun y H2 sm2 im2 => q y H2 (sm.trans sm2) im2⟩
  · rename_i k1
    cases hh
    exact ⟨hs, _, k1, fun x H' sm im => ⟨false, im, iteF (q _ H' sm rfl)⟩⟩
  · cases hh
theorem h_not {n : Str} {i : Nat} {h : Hx} (h1 : HOk g n i a h) : HOk g n i (.UnaryOp .Not a pos) (hNot h) := fun X A ad oe cls pn c hz hf hm => by
  refine PE.imp (pe_not (h1 X A ad oe cls pn c hz hf hm)) fun σ H Q ⟨hs, d, hh, q⟩ => ?_
  unfold hNot at hh
  split at hh
  · rename_i k k1
    cases hh
    exact ⟨hs, _, k1, fun x H' sm im => ⟨k, im, q _ H' sm rfl⟩⟩
  · cases hh
def sTry (need : Nat) (tab : List (Str × Bool)) (h : Hx) (f : Sx) : Sx := fun ρ => match f ρ with
  | .ok r => .ok r
  | .stuck => .stuck
  | .exc c ρ' => match look tab c with
    | some true => (match h c with
      | some d => if need ≤ ρ'.length then .ok (.ret (.v d) ρ') else .stuck
      | none => .stuck)
    | some false => .exc c ρ'
    | none => .stuck
theorem AtS.tr (A : AtS g X) {pn : List (Addr × Obj)} {xe : Value → Shared → Prop} (p : PassesOwn (model X.prog X.w) X.A X.env xe) : AtS g (X.tr pn xe) where
  prog := A.prog
  w := A.w
  K := A.K
  mg := A.mg
  base := A.base
  N := A.N
  sc := A.sc
  fn := A.fn
  room := A.room
  calm := A.calm
  own := p
  stk := A.stk
  fr := A.fr
/-- what the suite wishes -/
def tH (g : Cf) (K : PySem.W.Frag) (n : Str) (i : Nat) (h : Hx) (a : Addr) (cls : Value) (d : Option Addr) : TS := fun D σ H => d = none ∧ ∃ c dv, g.mg c = some cls ∧ (n = "" ∨ σ[i]? = some (some (.ref a))) ∧ h c = some dv ∧ ∀ x H', Same H H' → Imm K H' dv x → D.rt x H'
theorem suite_ok {n : Str} {i : Nat} {h : Hx} {p1 : Pos} (A : At g X) (hh : HOk g n i e h) (a : Addr) (oe : Obj) (cls : Value) (d : Option Addr) (pn : List (Addr × Obj)) (hz : Zc cls d oe) (hf : ∃ vs, oe.data = .fields vs) : PSs (X.suite a ((a, oe) :: pn)) [.Return (some e) p1] (tH g X.K n i h a cls d) := by
  refine pss_one ⟨fun pins s σ H D I ⟨hd, c, dv, hm, hs, hc, q⟩ => ?_⟩
  subst hd
  exact (ps_ret (hh X A a oe cls pn c hz hf hm)).run pins s σ H D I ⟨hs, dv, hc, q⟩
theorem try_read {need : Nat} {tab : List (Str × Bool)} {h : Hx} {f : Sx} {D : Ends} {σ : L2.St} {H : Hp} {W' : WX} (t : tS K g (sTry need tab h f) W D σ H)
    (hw : ∀ c ρ' cls σ' H', Ext H H' → ER K g ρ' σ' H' → g.mg c = some cls → ∀ b, look tab c = some b → (b = true → need ≤ ρ'.length ∧ ∃ d, h c = some d ∧ ∀ x H2, Same H' H2 → Imm K H2 d x → D.rt x H2) → (b = false → W cls none σ' H') → W' cls none σ' H') : tS K g f W' D σ H := by
  obtain ⟨ρ, R, q⟩ := t
  refine ⟨ρ, R, ?_⟩
  unfold sTry at q
  cases hf : f ρ with
  | stuck => rw [hf] at q; exact q.elim
  | ok r =>
    rw [hf] at q
    have q : PsS K g H W D (.ok r) := q
    cases r <;> exact q
  | exc c ρ' =>
    rw [hf] at q
    dsimp only at q
    intro cls σ' H' E' R' hm
    cases hl : look tab c with
    | none => rw [hl] at q; exact q.elim
    | some b =>
      rw [hl] at q
      refine hw c ρ' cls σ' H' E' R' hm b hl (fun hb => ?_) (fun hb => ?_)
      · subst hb
        dsimp only at q
        cases hc : h c with
        | none => rw [hc] at q; exact q.elim
        | some d =>
          rw [hc] at q
          dsimp only at q
          split at q
          case isFalse => exact q.elim
          rename_i hlen
          exact ⟨hlen, d, rfl, fun x H2 sm im => q σ' H2 x (E'.trans (Ext.of_same sm)) (R'.same sm) im⟩
      · subst hb
        exact q cls σ' H' E' R' hm
theorem s_try {body : List Stmt} {x n : Str} {i : Nat} {np p1 pos' : Pos} {tab : List (Str × Bool)} {h : Hx} {f : Sx} (hx : Cat g x tab) (hb : SsOk g body f) (hh : HOk g n i e h) (hN : g.N[i]? = some n) (nd : g.N.Nodup) (hloc : g.sc.names.lookup n = some .local) (hgx : Glo g x := by rfl) :
    SOk g (.Try body [.ExceptHandler (some (.Name x np)) (some n) [.Return (some e) p1] pos'] [] [] pos) (sTry (i + 1) tab h f) := fun X W A tk => by
  obtain ⟨cv, ⟨hdb, hx1⟩, ht⟩ := hx.ex
  have hi : X.N[i]? = some n := by rw [A.N]; exact hN
  have key := ps_try_as (pos := pos) (pos' := pos') (np := np) (x := x) (c := cv) (body := body) (tb := fun W => tS X.K g f W) (ts := tH g X.K n i h) A.stk A.fr (by rw [A.N]; exact nd) hi (by show X.env.scope.names.lookup n = _; rw [A.sc]; exact hloc) ⟨hgx.gl A.toAt, hdb, by rw [A.mg]; exact hx1⟩ tk
    (fun W pn xe tk' p => hb _ W (A.tr p) tk') (fun a oe cls d pn hz hf => suite_ok (p1 := p1) A.toAt hh a oe cls d pn hz hf)
  refine ⟨fun pins s σ H D I t => ?_⟩
  refine key.run pins s σ H D I (try_read t fun c ρ' cls σ' H' E' R' hm b hl hy hn => ?_)
  obtain ⟨C, hm2, hk⟩ := ht c b (look_mem hl)
  rw [hm] at hm2
  cases hm2
  refine ⟨b, by rw [A.K]; exact hk, fun hb a ha => ?_, hn⟩
  obtain ⟨hlen, d, hd, q⟩ := hy hb
  refine ⟨rfl, c, d, hm, .inr ?_, hd, q⟩
  exact List.getElem?_set_self (by rw [← R'.len]; omega)
theorem s_tryN {body : List Stmt} {x : Str} {np p1 pos' : Pos} {tab : List (Str × Bool)} {h : Hx} {f : Sx} (hx : Cat g x tab) (hb : SsOk g body f) (hh : HOk g "" 0 e h) (hgx : Glo g x := by rfl) :
    SOk g (.Try body [.ExceptHandler (some (.Name x np)) none [.Return (some e) p1] pos'] [] [] pos) (sTry 0 tab h f) := fun X W A tk => by
  obtain ⟨cv, ⟨hdb, hx1⟩, ht⟩ := hx.ex
  have key := ps_try_only (pos := pos) (pos' := pos') (np := np) (x := x) (c := cv) (body := body) (tb := fun W => tS X.K g f W) (ts := tH g X.K "" 0 h) A.stk A.fr ⟨hgx.gl A.toAt, hdb, by rw [A.mg]; exact hx1⟩ tk
    (fun W pn xe tk' p => hb _ W (A.tr p) tk') (fun a oe cls d pn hz hf => suite_ok (p1 := p1) A.toAt hh a oe cls d pn hz hf)
  refine PS.imp key fun D σ H t => try_read t fun c ρ' cls σ' H' E' R' hm b hl hy hn => ?_
  obtain ⟨C, hm2, hk⟩ := ht c b (look_mem hl)
  rw [hm] at hm2
  cases hm2
  refine ⟨b, by rw [A.K]; exact hk, fun hb a ha => ?_, hn⟩
  obtain ⟨hlen, d, hd, q⟩ := hy hb
  exact ⟨rfl, c, d, hm, .inl rfl, hd, q⟩
end
end PL
namespace PL
open PySem PySem.Spec PyProof.Rows L2
/-- a def, apart from a body's configuration -/
structure Cal0 (P : Program) (w : World) (K : PySem.W.Frag) (mg : Str → Option Value) (base : Heap) (k : Nat) (x : Str) (n : Nat) (F : Fn) : Prop where
  ex : ∃ (f : Addr) (fd : FuncData) (ps : List Str), FnOk P w K mg base (L2.CX P w) k f fd ps (spF K mg n F) ∧ mg x = some (.ref f) ∧ PySem.W.keepIn K (.ref f) = true ∧ Binds K fd ps []
theorem Cal0.cal {P : Program} {w : World} {K : PySem.W.Frag} {mg : Str → Option Value} {base : Heap} {j k : Nat} {x : Str} {n : Nat} {F : Fn} (h : Cal0 P w K mg base j x n F) (hk : j ≤ k) {N : List Str} {sc : Scope} {fn : Str → Bool} {H0 : Hp} {io : List (Nat × Addr)} : Cal ⟨P, w, K, mg, base, N, sc, fn, k, H0, io⟩ x n F := by
  obtain ⟨f, fd, ps, h1, h2⟩ := h.ex
  exact ⟨f, fd, ps, h1.mono hk, h2⟩
/-- what the written part says of a def -/
def FnT (K : PySem.W.Frag) (mg : Str → Option Value) (x : Str) (st : Stmt) (ps : List Str) : Prop := ∃ (f : Addr) (fd : FuncData), mg x = some (.ref f) ∧ L2.Fun K x x st f fd ∧ PySem.W.keepIn K (.ref f) = true ∧ Binds K fd ps []
theorem Cal0.of {P : Program} {w : World} {K : PySem.W.Frag} {mg : Str → Option Value} {base : Heap} {k : Nat} {x : Str} {n m : Nat} {f : Sx} {st : Stmt} {N ps : List Str} (T : FnT K mg x st ps) (S : FnScope N ps (defScope st)) (hn : ps.length = n) (hm : N.length = n + m)
    (hb : ∀ H0, SsOk ⟨P, w, K, mg, base, N, defScope st, fun _ => true, k, H0, []⟩ (defBody st) f) : Cal0 P w K mg base (k + 1) x n (runF m f) := by
  obtain ⟨fa, fd, h1, h2, h3, h4⟩ := T
  exact ⟨fa, fd, ps, fn_ok h2 S hn hm hb, h1, h3, h4⟩
theorem FnT.mk' {K : PySem.W.Frag} {h : Heap} {mg : Str → Option Value} {x : Str} {st : Stmt} {ps : List Str} (X : K.In h) (G : h.Ns mainGlobals mg) {f : Addr} {oc : Value} {od an : Option Addr} {osl : Array (Option Value)} {kV doc pm cdv ct : Value}
    (a : PySem.W.nsIn K mainGlobals x = some (some (.ref f))) (l : K.lookup f = some ⟨oc, od, .func (PySem.W.fnOf x x (defArgs st) (defBody st) (defScope st) .none kV doc pm an cdv ct), osl⟩) (c : PySem.W.codeIn K cdv x = true) (k : PySem.W.keepIn K (.ref f) = true)
    (b : ∀ (kV doc pm : Value) (an : Option Addr) (cdv ct : Value) (us : List Value), us.length = ps.length → bindArgs (PySem.W.fnOf x x (defArgs st) (defBody st) (defScope st) .none kV doc pm an cdv ct) ⟨us, []⟩ = pure (ps.zip us)) : FnT K mg x st ps :=
  ⟨f, _, PySem.W.mg_of X G a, fun_mk l c k, k, (fun_mk l c k).binds b⟩
/-- raw facts, apart from a body's configuration -/
def Con0 (K : PySem.W.Frag) (mg : Str → Option Value) (x : Str) (d : D) : Prop := ∃ u v, mg x = some u ∧ RelV v u ∧ ∀ H, Imm K H d v
def Exc0 (K : PySem.W.Frag) (mg : Str → Option Value) (c : Str) : Prop := ∃ C : Addr, PySem.W.excIn K C [.type "ValueError", .type "Exception", .type "BaseException", .type "object"] "ValueError.__new__" = true ∧ mg c = some (.ref C) ∧ PySem.W.keepIn K (.ref C) = true ∧ PySem.W.subIn K (.ref C) (.type "BaseException") = some true ∧ PySem.W.typeIn K (.ref C) = some (.type "type")
def Cat0 (K : PySem.W.Frag) (mg : Str → Option Value) (x : Str) (tab : List (Str × Bool)) : Prop := ∃ cv : Value, ((x == ("__debug__" : Str)) = false ∧ (mg x = some cv ∨ (mg x = none ∧ bootBuiltins x = some cv ∧ x ≠ "__name__"))) ∧ ∀ c b, (c, b) ∈ tab → ∃ C, mg c = some (.ref C) ∧ PySem.W.exmOne K (.ref C) cv = some b
def IsE0 (K : PySem.W.Frag) (mg : Str → Option Value) (x : Str) (tab : List (Str × Bool)) : Prop := ∃ (v : V) (cv : Value), RelV v cv ∧ (∀ u, RelV v u → u = cv) ∧ (x == ("__debug__" : Str)) = false ∧ (mg x = some cv ∨ (mg x = none ∧ bootBuiltins x = some cv ∧ x ≠ "__name__")) ∧ ∀ c b, (c, b) ∈ tab → ∃ C, mg c = some (.ref C) ∧ ExcC K C ∧ PySem.W.kitOne K (.ref C) cv = some b
section
variable {K : PySem.W.Frag} {h : Heap} {mg : Str → Option Value} {x : Str}
theorem Con0.int (X : K.In h) (G : h.Ns mainGlobals mg) {i : Int} {t : Tok} (a : PySem.W.nsIn K mainGlobals x = some (some (.int i t))) : Con0 K mg x (.int i) := ⟨_, .int i, PySem.W.mg_of X G a, ⟨t, rfl⟩, fun _ => rfl⟩
theorem Con0.str (X : K.In h) (G : h.Ns mainGlobals mg) {i : Str} {t : Tok} (a : PySem.W.nsIn K mainGlobals x = some (some (.str i t))) : Con0 K mg x (.str i) := ⟨_, .str i, PySem.W.mg_of X G a, ⟨t, rfl⟩, fun _ => rfl⟩
theorem Con0.bl (X : K.In h) (G : h.Ns mainGlobals mg) {i : Bool} (a : PySem.W.nsIn K mainGlobals x = some (some (.bool i))) : Con0 K mg x (.bl i) := ⟨_, .bl i, PySem.W.mg_of X G a, rfl, fun _ => rfl⟩
theorem Exc0.mk' (X : K.In h) (G : h.Ns mainGlobals mg) {C : Addr} (a : PySem.W.nsIn K mainGlobals x = some (some (.ref C))) (e : PySem.W.excIn K C [.type "ValueError", .type "Exception", .type "BaseException", .type "object"] "ValueError.__new__" = true) (k : PySem.W.keepIn K (.ref C) = true)
    (s : PySem.W.subIn K (.ref C) (.type "BaseException") = some true) (t : PySem.W.typeIn K (.ref C) = some (.type "type")) : Exc0 K mg x := ⟨C, e, PySem.W.mg_of X G a, k, s, t⟩
theorem Cat0.nil (X : K.In h) (G : h.Ns mainGlobals mg) {C : Addr} (a : PySem.W.nsIn K mainGlobals x = some (some (.ref C))) (hd : (x == ("__debug__" : Str)) = false := by decide) : Cat0 K mg x [] := ⟨_, ⟨hd, .inl (PySem.W.mg_of X G a)⟩, fun _ _ h => by cases h⟩
theorem Cat0.cons (X : K.In h) (G : h.Ns mainGlobals mg) {C D : Addr} {c : Str} {b : Bool} {tab : List (Str × Bool)} (aC : PySem.W.nsIn K mainGlobals x = some (some (.ref C))) (aD : PySem.W.nsIn K mainGlobals c = some (some (.ref D)))
    (h1 : PySem.W.subIn K (.ref C) (.type "BaseException") = some true) (h2 : PySem.W.hasDictIn K C = true) (h3 : PySem.W.typeIn K (.ref C) = some (.type "type")) (h4 : PySem.W.subIn K (.ref D) (.ref C) = some b) (r : Cat0 K mg x tab) : Cat0 K mg x ((c, b) :: tab) := by
  obtain ⟨cv, ⟨r1, r2⟩, r3⟩ := r
  have hx := PySem.W.mg_of X G aC
  have ecv : cv = .ref C := by
    rcases r2 with r2 | ⟨r2, _⟩
    · rw [hx] at r2; exact (Option.some.inj r2).symm
    · rw [hx] at r2; cases r2
  subst ecv
  refine ⟨_, ⟨r1, .inl hx⟩, fun c' b' hm => ?_⟩
  rcases List.mem_cons.mp hm with e | hm
  · cases e
    exact ⟨D, PySem.W.mg_of X G aD, PySem.W.exm_ref h1 h2 h3 h4⟩
  · exact r3 c' b' hm
theorem IsE0.nil (X : K.In h) (G : h.Ns mainGlobals mg) {C : Addr} (a : PySem.W.nsIn K mainGlobals x = some (some (.ref C))) (hd : (x == ("__debug__" : Str)) = false := by decide) : IsE0 K mg x [] := ⟨.ref C, .ref C, rfl, fun _ r => r, hd, .inl (PySem.W.mg_of X G a), fun _ _ h => by cases h⟩
theorem IsE0.nilB (X : K.In h) (G : h.Ns mainGlobals mg) {t : String} (a : PySem.W.nsIn K mainGlobals x = some none) (hb : bootBuiltins x = some (.type t)) (hn : x ≠ "__name__" := by decide) (hd : (x == ("__debug__" : Str)) = false := by decide) : IsE0 K mg x [] := ⟨.ty t, .type t, rfl, fun _ r => r, hd, .inr ⟨PySem.W.mg_none_of X G a, hb, hn⟩, fun _ _ h => by cases h⟩
theorem IsE0.cons (X : K.In h) (G : h.Ns mainGlobals mg) {C D : Addr} {c : Str} {b : Bool} {tab : List (Str × Bool)} (aC : PySem.W.nsIn K mainGlobals x = some (some (.ref C))) (aD : PySem.W.nsIn K mainGlobals c = some (some (.ref D)))
    (e : ExcC K D) (h4 : PySem.W.kitOne K (.ref D) (.ref C) = some b) (r : IsE0 K mg x tab) : IsE0 K mg x ((c, b) :: tab) := by
  obtain ⟨v, cv, r1, r2, r3, r4, r5⟩ := r
  have hx := PySem.W.mg_of X G aC
  have ecv : cv = .ref C := by
    rcases r4 with r4 | ⟨r4, _⟩
    · rw [hx] at r4; exact (Option.some.inj r4).symm
    · rw [hx] at r4; cases r4
  subst ecv
  refine ⟨v, _, r1, r2, r3, .inl hx, fun c' b' hm => ?_⟩
  rcases List.mem_cons.mp hm with e' | hm
  · cases e'
    exact ⟨D, PySem.W.mg_of X G aD, e, h4⟩
  · exact r5 c' b' hm
theorem IsE0.consB (X : K.In h) (G : h.Ns mainGlobals mg) {t : String} {D : Addr} {c : Str} {b : Bool} {tab : List (Str × Bool)} (a : PySem.W.nsIn K mainGlobals x = some none) (hb : bootBuiltins x = some (.type t)) (aD : PySem.W.nsIn K mainGlobals c = some (some (.ref D)))
    (e : ExcC K D) (h4 : PySem.W.kitOne K (.ref D) (.type t) = some b) (r : IsE0 K mg x tab) : IsE0 K mg x ((c, b) :: tab) := by
  obtain ⟨v, cv, r1, r2, r3, r4, r5⟩ := r
  have hx := PySem.W.mg_none_of X G a
  rcases r4 with r4 | ⟨r4, r4b, r4n⟩
  · rw [hx] at r4; cases r4
  · have ecv : cv = .type t := by rw [hb] at r4b; exact (Option.some.inj r4b).symm
    subst ecv
    refine ⟨v, _, r1, r2, r3, .inr ⟨hx, hb, r4n⟩, fun c' b' hm => ?_⟩
    rcases List.mem_cons.mp hm with e' | hm
    · cases e'
      exact ⟨D, PySem.W.mg_of X G aD, e, h4⟩
    · exact r5 c' b' hm
end
/-! ### the law's own head -/
def spL (K : PySem.W.Frag) : Sp := fun vs H Q _ => ∃ (a : Addr) (ns : List Int), vs = [.ref a] ∧ ScrL K H a (ns.map V.int) ∧ ns.length ≤ 63 ∧ ∀ H', Q (.bl true) H'
theorem spL_of {K : PySem.W.Frag} {H : Hp} {a : Addr} {ns : List Int} (hl : ns.length ≤ 63) (hO : L2.Only H) (hS : SqL K H a (ns.map V.int)) : spL K [.ref a] H (fun v _ => v = .bl true) fun _ _ _ => False := by
  refine ⟨a, ns, rfl, ?_, hl, fun _ => rfl⟩
  rcases hS with (h | h) | h
  · rcases hO a with z | ⟨o, xs, z⟩
    · rw [h] at z; cases z
    · rw [h] at z; cases z
  · exact .inl h
  · exact .inr h
theorem fnL {P : Program} {w : World} {K : PySem.W.Frag} {mg : Str → Option Value} {base : Heap} {CX : CXT} {k : Nat} {f : Addr} {fd : FuncData} {ps : List Str} {F : Fn} (h : FnOk P w K mg base CX k f fd ps (spF K mg 1 F)) (hF : ∀ ns : List Int, ns.length ≤ 63 → F [.scr ns] = .ok (.v (.bl true))) : FnOk P w K mg base CX k f fd ps (spL K) :=
  h.imp fun vs H Q E ⟨a, ns, e, hs, hl, q⟩ => by
    subst e
    refine ⟨[.scr ns], rfl, ⟨_, _, rfl, ⟨a, rfl, hs⟩, rfl⟩, ?_⟩
    rw [hF ns hl]
    exact fun H' x _ r => by cases (show _ = _ from r); exact q H'
theorem noCX {P : Program} {w : World} {H : Hp} {s : Shared} {e : Value} {s' : Shared} (h : L2.CX P w [] H s (fun _ _ _ => False) e s') : False := by
  obtain ⟨_, _, _, _, _, _, _, _, _, _, _, _, z⟩ := h
  exact z
theorem Cal0.none_ {P : Program} {w : World} {K : PySem.W.Frag} {mg : Str → Option Value} {base : Heap} {k : Nat} {x : Str} {n : Nat} {st : Stmt} {ps : List Str} (T : FnT K mg x st ps) : Cal0 P w K mg base k x n (fun _ => .stuck) := by
  obtain ⟨fa, fd, h1, h2, h3, h4⟩ := T
  exact ⟨fa, fd, ps, ⟨fun vs H Q E h => by obtain ⟨_, _, _, z⟩ := h; exact z.elim, fun A outer s H args us vs Q E _ _ _ _ h => by obtain ⟨_, _, _, z⟩ := h; exact z.elim⟩, h1, h3, h4⟩
end PL

namespace PL
open PySem PySem.Spec PyProof.Rows L2
/-! ### own objects change -/
def ownD (ρ : Rho) (i : Nat) : Option D := match ρ[i]? with
  | some (some (.o d)) => some d
  | _ => none
theorem ownD_is {ρ : Rho} {i : Nat} {d : D} (h : ownD ρ i = some d) : ρ[i]? = some (some (.o d)) := by
  unfold ownD at h
  split at h
  · rename_i d' h'; cases h; exact h'
  · cases h
def putO (ρ : Rho) (i : Nat) (d : D) : Rho := ρ.set i (some (.o d))
theorem mut_ext {H H' : Hp} {a : Addr} {u : HO} (hu : H a = some u) (mu : Mut (some u)) (e : ∀ b, b ≠ a → H' b = H b) : Ext H H' := fun b ob hb => by
  by_cases hba : b = a
  · subst hba
    rw [hu] at hb; cases hb
    exact ⟨fun xs e => by subst e; exact mu.elim, fun _ _ e => by subst e; exact mu.elim⟩
  · exact ⟨fun _ _ => by rw [e b hba]; exact hb, fun _ _ _ => by rw [e b hba]; exact hb⟩
theorem ER.put {K : PySem.W.Frag} {g : Cf} {ρ : Rho} {σ : L2.St} {H H' : Hp} {i : Nat} {d d' : D} {a : Addr} (R : ER K g ρ σ H) (hi : ρ[i]? = some (some (.o d))) (ha : σ[i]? = some (some (.ref a))) (e : ∀ b, b ≠ a → H' b = H b) (x : Ext H H') (o : OwnAt K H' a d') : ER K g (putO ρ i d') σ H' := by
  have hlt : i < ρ.length := by
    rcases Nat.lt_or_ge i ρ.length with z | z
    · exact z
    · rw [List.getElem?_eq_none z] at hi; cases hi
  have gρ : ∀ j, (putO ρ i d')[j]? = if j = i then some (some (.o d')) else ρ[j]? := fun j => by
    unfold putO
    by_cases hj : j = i
    · subst hj; rw [if_pos rfl, List.getElem?_set_self hlt]
    · rw [if_neg hj, List.getElem?_set_ne (Ne.symm hj)]
  have un : ∀ {j : Nat} {dj : D}, (putO ρ i d')[j]? = some (some (S.o dj)) → ∃ dk : D, ρ[j]? = some (some (S.o dk)) := fun {j dj} h => by
    rw [gρ] at h
    by_cases hj : j = i
    · subst hj; exact ⟨d, hi⟩
    · rw [if_neg hj] at h; exact ⟨_, h⟩
  refine ⟨by unfold putO; rw [List.length_set]; exact R.len, fun j dj h => ?_, fun j dj h => ?_, fun j m h => ?_, fun j m dj dm b h1 h2 h3 h4 => ?_, fun b ob h q => ?_, fun j dj b h1 h2 => ?_, fun p hp => ?_⟩
  · rw [gρ] at h
    by_cases hj : j = i
    · rw [if_pos hj] at h; cases h
    · rw [if_neg hj] at h
      obtain ⟨y, h1, h2⟩ := R.val j dj h
      exact ⟨y, h1, Imm.ext x _ _ h2⟩
  · rw [gρ] at h
    by_cases hj : j = i
    · rw [if_pos hj] at h; cases h; subst hj; exact ⟨a, ha, o⟩
    · rw [if_neg hj] at h
      obtain ⟨b, h1, h2⟩ := R.own j dj h
      have hb : b ≠ a := fun z => hj (R.sep j i dj d a h hi (z ▸ h1) ha)
      exact ⟨b, h1, h2.ext x (e b hb)⟩
  · rw [gρ] at h
    by_cases hj : j = i
    · rw [if_pos hj] at h; cases h
    · rw [if_neg hj] at h; exact R.bor j m h
  · obtain ⟨k1, h1'⟩ := un h1
    obtain ⟨k2, h2'⟩ := un h2
    exact R.sep j m k1 k2 b h1' h2' h3 h4
  · have hb : b ≠ a := fun z => by
      subst z
      rcases R.new i d b hi ha with h0 | h0
      · rw [h0] at h; cases h
      · exact q _ h0 rfl
    rw [e b hb]
    exact R.old b ob h q
  · obtain ⟨k1, h1'⟩ := un h1
    exact R.new j k1 b h1' h2
  · obtain ⟨h1, dj, h2⟩ := R.io p hp
    refine ⟨h1, ?_⟩
    rw [gρ]
    by_cases hj : p.1 = i
    · rw [if_pos hj]; exact ⟨_, rfl⟩
    · rw [if_neg hj]; exact ⟨_, h2⟩
/-- the own list is overwritten -/
theorem lst_upd {K : PySem.W.Frag} {H : Hp} {a : Addr} {xs ys : List V} {es : List D} (h : H a = some (.lst xs)) (im : ImmL K H es ys) : Ext H (upd H a (.lst ys)) ∧ (∀ b, b ≠ a → upd H a (.lst ys) b = H b) ∧ OwnAt K (upd H a (.lst ys)) a (.lst es) := by
  have x : Ext H (upd H a (.lst ys)) := mut_ext h True.intro fun b hb => upd_ne hb
  exact ⟨x, fun b hb => upd_ne hb, ys, upd_same, ImmL.ext x _ _ im⟩
section
variable {g : Cf} {X : Cx} {e a b c ie : Expr} {es : List Expr} {pos : Pos} {K : PySem.W.Frag} {W : WX}
/-- a method of an own list: its result, the list behind it -/
def MlR (X : Cx) (r : V → List V → Hp → VK → Prop) (od : List D → List D → Option (D × List D)) : Prop :=
  ∀ (a : Addr) (vs xs : List V) (H : Hp) (Q : VK) (ls ds ls' : List D) (z : D), H a = some (.lst vs) → ImmL X.K H ls vs → ImmL X.K H ds xs → od ls ds = some (z, ls') →
    (∀ y H', Ext H H' → (∀ b, b ≠ a → H' b = H b) → OwnAt X.K H' a (.lst ls') → Imm X.K H' z y → Q y H') → r (.ref a) xs H Q
def eMl (l : List Nat) (i : Nat) (od : List D → List D → Option (D × List D)) (fa : Ax) : Ex := fun ρ => match ownD ρ i with
  | some (.lst _) => aF l fa ρ >>= fun p => (match ownD p.2 i with
    | some (.lst ls) => liftO (od ls p.1) >>= fun q => .ok (.v q.1, putO p.2 i (.lst q.2))
    | _ => .stuck)
  | _ => .stuck
theorem tyL_of {K : PySem.W.Frag} {H : Hp} {a : Addr} {ds : List D} (o : OwnAt K H a (.lst ds)) : tyV K "list" (.ref a) H := by
  obtain ⟨vs, h, _⟩ := o
  exact .inl ⟨rfl, vs, SqL.of h⟩
theorem readMl {r : V → List V → Hp → VK → Prop} {od : List D → List D → Option (D × List D)} {i : Nat} {fa : Ax} {σ : L2.St} {H : Hp} {Q : VK} (h : MlR X r od) (t : tE X.K g (eMl g.ios i od fa) W σ H Q) :
    ∃ x, σ[i]? = some (some x) ∧ tyV X.K "list" x H ∧ tAF X.K g fa W σ H fun xs H2 => r x xs H2 Q := by
  obtain ⟨ρ, R, q⟩ := t
  unfold eMl at q
  split at q
  case h_2 => exact q.elim
  rename_i ls0 ho
  obtain ⟨a, ha, o⟩ := R.own i _ (ownD_is ho)
  refine ⟨_, ha, tyL_of o, ?_⟩
  refine tAF_step R q fun ds ρ1 xs H1 R1 E1 im q1 => ?_
  split at q1
  case h_2 => exact q1.elim
  rename_i ls ho1
  obtain ⟨p, hp, q2⟩ := q1.opt
  have hi := ownD_is ho1
  obtain ⟨a', ha', o'⟩ := R1.own i _ hi
  rw [ha] at ha'
  cases ha'
  obtain ⟨vs, hv, iv⟩ := o'
  refine h a vs xs H1 Q ls ds p.2 p.1 hv iv im hp fun y H' E2 k o2 iy => ?_
  exact q2 H' E2 (R1.put hi ha k E2 o2) y iy
theorem e_ml {x name : Str} {id : String} {i : Nat} {p apos : Pos} {r : V → List V → Hp → VK → Prop} {od : List D → List D → Option (D × List D)} {fa : Ax} (slot : PySem.Slot "list" name id) (hty : typeOf (.builtin id) = pure (.type "method_descriptor"))
    (hr : ∀ X, At g X → MtR X id r ∧ MlR X r od) (ha : AOk g (e :: es) fa) (hN : g.N[i]? = some x := by rfl) (hv : Vis g.sc x := by first | exact Or.inl rfl | exact Or.inr (Or.inl rfl) | exact Or.inr (Or.inr rfl)) (hd : (x == ("__debug__" : Str)) = false := by decide) (hcd : (x == ("__classdict__" : Str)) = false := by decide)
    (hbase : ∀ env, attributeBase (.Name x p) name env (eval (.Name x p) env) = eval (.Name x p) env := by intro _; rfl)
    (hfew : ∀ env, ((backTo pos (starEach (e :: es) env)).all (fun x => !x.1) && (backToKw pos (keywordEach [] env)).all (fun x => x.1.isSome)
      && decide ((e :: es).length + ([] : List Keyword).length + (if ([] : List Keyword).isEmpty then 0 else 1) < 30)) = true := by intro _; rfl)
    (hline : (apos.endLine == pos.line) = true := by rfl) (hs : ∀ env, starEach (e :: es) env = (false, eval e env) :: starEach es env := by intro _; rfl) (hpl : ∀ env, (backTo pos (starEach es env)).any (·.1) = false := by intro _; rfl) :
    EOk g (.Call (.Attribute (.Name x p) name apos) (e :: es) [] pos) (eMl g.ios i od fa) := fun X W A tk => by
  obtain ⟨h1, h2⟩ := hr X A
  refine PE.imp (pe_bm PySem.F.plainAttrs_list slot hty h1 (pe_var (i := i) (by rw [A.N]; exact hN) (by unfold Vis; rw [A.sc]; exact hv) hd hcd) (ha.f A tk) (hbase _) (hfew _) hline (hs _) (hpl _)) fun σ H Q t => ?_
  obtain ⟨x, k1, k2, k3⟩ := readMl h2 t
  exact ⟨x, k1, k2, k3⟩
theorem e_ml0 {x name : Str} {id : String} {i : Nat} {p apos : Pos} {r : V → List V → Hp → VK → Prop} {od : List D → List D → Option (D × List D)} (slot : PySem.Slot "list" name id) (hty : typeOf (.builtin id) = pure (.type "method_descriptor"))
    (hr : ∀ X, At g X → MtR X id r ∧ MlR X r od) (hN : g.N[i]? = some x := by rfl) (hv : Vis g.sc x := by first | exact Or.inl rfl | exact Or.inr (Or.inl rfl) | exact Or.inr (Or.inr rfl)) (hd : (x == ("__debug__" : Str)) = false := by decide) (hcd : (x == ("__classdict__" : Str)) = false := by decide)
    (hbase : ∀ env, attributeBase (.Name x p) name env (eval (.Name x p) env) = eval (.Name x p) env := by intro _; rfl)
    (hline : (apos.endLine == pos.line) = true := by rfl) :
    EOk g (.Call (.Attribute (.Name x p) name apos) [] [] pos) (eMl g.ios i od aNil) := fun X W A tk => by
  obtain ⟨h1, h2⟩ := hr X A
  refine PE.imp (pe_bm0 PySem.F.plainAttrs_list slot hty h1 (pe_var (i := i) (by rw [A.N]; exact hN) (by unfold Vis; rw [A.sc]; exact hv) hd hcd) (hbase _) hline) fun σ H Q t => ?_
  obtain ⟨x, k1, k2, ρ, R, k3⟩ := readMl h2 t
  exact ⟨x, k1, k2, k3 H (Ext.refl H) R [] rfl⟩
theorem immL_1 {K : PySem.W.Frag} {H : Hp} {d : D} {xs : List V} (h : ImmL K H [d] xs) : ∃ x, xs = [x] ∧ Imm K H d x := by
  obtain ⟨v, r, e, h1, h2⟩ := h
  cases (show _ = _ from h2)
  exact ⟨v, e, h1⟩
theorem immL_2 {K : PySem.W.Frag} {H : Hp} {d d' : D} {xs : List V} (h : ImmL K H [d, d'] xs) : ∃ x y, xs = [x, y] ∧ Imm K H d x ∧ Imm K H d' y := by
  obtain ⟨v, r, e, h1, h2⟩ := h
  obtain ⟨w, rfl, h3⟩ := immL_1 h2
  exact ⟨v, w, e, h1, h3⟩
def mAppend (ls ds : List D) : Option (D × List D) := match ds with
  | [d] => if ls.length < 16777216 then some (.non, ls ++ [d]) else none
  | _ => none
theorem m_append (A : At g X) : MtR X "list.append" rAppend ∧ MlR X rAppend mAppend := ⟨mt_append, fun a vs xs H Q ls ds ls' z hv iv im hod q => by
  match ds, hod with
  | [d], hod =>
    obtain ⟨x, rfl, ix⟩ := immL_1 im
    simp only [mAppend] at hod
    split at hod
    · rename_i hl
      cases hod
      obtain ⟨e1, e2, e3⟩ := lst_upd hv (iv.snoc ix)
      exact ⟨a, vs, x, rfl, rfl, hv, by rw [iv.len, sizeLine_eq]; exact hl, q _ _ e1 e2 e3 rfl⟩
    · cases hod⟩
def mPop (ls ds : List D) : Option (D × List D) := match ds with
  | [] => match ls[ls.length - 1]? with
    | some d => some (d, ls.dropLast)
    | none => none
  | _ => none
theorem immL_dropLast {K : PySem.W.Frag} {H : Hp} {ds : List D} {vs : List V} (h : ImmL K H ds vs) : ImmL K H ds.dropLast vs.dropLast := by
  rw [List.dropLast_eq_take, List.dropLast_eq_take, h.len]
  exact h.take _
theorem m_pop (A : At g X) : MtR X "list.pop" rPop ∧ MlR X rPop mPop := ⟨mt_pop, fun a vs xs H Q ls ds ls' z hv iv im hod q => by
  match ds, hod with
  | [], hod =>
    cases (show _ = _ from im)
    simp only [mPop] at hod
    split at hod
    · rename_i d hd
      cases hod
      obtain ⟨y, hy, iy⟩ := iv.get' hd
      obtain ⟨e1, e2, e3⟩ := lst_upd hv (immL_dropLast iv)
      exact ⟨a, vs, y, rfl, rfl, hv, by rw [iv.len]; exact hy, q _ _ e1 e2 e3 (Imm.ext e1 _ _ iy)⟩
    · cases hod⟩
def mPopAt (ls ds : List D) : Option (D × List D) := match ds with
  | [.int i] => if -(2 ^ 63) ≤ i ∧ i < 2 ^ 63 then (match seqIndex? i ls.length with
    | some k => (match ls[k]? with
      | some d => some (d, ls.eraseIdx k)
      | none => none)
    | none => none) else none
  | _ => none
theorem m_popAt (A : At g X) : MtR X "list.pop" rPopAt ∧ MlR X rPopAt mPopAt := ⟨mt_popAt, fun a vs xs H Q ls ds ls' z hv iv im hod q => by
  match ds, hod with
  | [.int i], hod =>
    obtain ⟨x, rfl, ix⟩ := immL_1 im
    cases (show _ = _ from ix)
    simp only [mPopAt] at hod
    split at hod
    case isFalse => cases hod
    rename_i hi
    split at hod
    case h_2 => cases hod
    rename_i k hk
    split at hod
    case h_2 => cases hod
    rename_i d hd
    cases hod
    obtain ⟨y, hy, iy⟩ := iv.get' hd
    obtain ⟨e1, e2, e3⟩ := lst_upd hv (iv.erase k)
    exact ⟨a, vs, i, k, y, rfl, rfl, hv, hi.1, hi.2, by rw [iv.len]; exact hk, hy, q _ _ e1 e2 e3 (Imm.ext e1 _ _ iy)⟩⟩
def mClear (ls ds : List D) : Option (D × List D) := match ds with
  | [] => some (.non, [])
  | _ => none
theorem m_clear (A : At g X) : MtR X "list.clear" rClear ∧ MlR X rClear mClear := ⟨mt_clear, fun a vs xs H Q ls ds ls' z hv iv im hod q => by
  match ds, hod with
  | [], hod =>
    cases (show _ = _ from im)
    cases hod
    obtain ⟨e1, e2, e3⟩ := lst_upd (K := X.K) (ys := []) (es := []) hv rfl
    exact ⟨a, vs, rfl, rfl, hv, q _ _ e1 e2 e3 rfl⟩⟩
def mReverse (ls ds : List D) : Option (D × List D) := match ds with
  | [] => some (.non, ls.reverse)
  | _ => none
theorem m_reverse (A : At g X) : MtR X "list.reverse" rReverse ∧ MlR X rReverse mReverse := ⟨mt_reverse, fun a vs xs H Q ls ds ls' z hv iv im hod q => by
  match ds, hod with
  | [], hod =>
    cases (show _ = _ from im)
    cases hod
    obtain ⟨e1, e2, e3⟩ := lst_upd hv iv.reverse
    exact ⟨a, vs, rfl, rfl, hv, q _ _ e1 e2 e3 rfl⟩⟩
/-! ### o[i] = v -/
def dSet (d : D) (k : D) (v : D) : Option D := match d, k with
  | .lst ls, .int i => (ixN ls.length i).map fun j => .lst (ls.set j v)
  | _, _ => none
def gSb (i : Nat) (fi : Ex) : Gx := fun v ρ => match ownD ρ i, fi ρ with
  | some _, .ok (s, ρ1) => (match PL.pk ρ1 s, ownD ρ1 i with
    | .ok k, some d => (dSet d k v).map fun d' => putO ρ1 i d'
    | _, _ => none)
  | _, _ => none
theorem g_sub {x : Str} {p : Pos} {i : Nat} {fi : Ex} (hi : EOk g ie fi) (hN : g.N[i]? = some x := by rfl) (hv : Vis g.sc x := by first | exact Or.inl rfl | exact Or.inr (Or.inl rfl) | exact Or.inr (Or.inr rfl)) (hd : (x == ("__debug__" : Str)) = false := by decide) (hcd : (x == ("__classdict__" : Str)) = false := by decide)
    (ha : ∀ env v, assign (.Subscript (.Name x p) ie pos) env v = (do
      let ov ← holding [v] (eval (.Name x p) env)
      let iv ← holding [v, ov] (eval ie env)
      standAt pos
      holding [v, ov, iv] (setItem ov iv v)
      release [v, ov, iv] []) := by intro _ _; rfl) : GOk g (.Subscript (.Name x p) ie pos) [] (gSb i fi) := fun X A => by
  refine PG.imp (pg_sub (pe_var (i := i) (by rw [A.N]; exact hN) (by unfold Vis; rw [A.sc]; exact hv) hd hcd) (hi.n A takes0) set_list (ha _)) fun v σ H Q ⟨ρ, d, R, im, q⟩ => ?_
  unfold gSb at q
  split at q
  case h_2 => exact q.elim
  rename_i d0 s ρ1 ho hf
  obtain ⟨a, ha1, o⟩ := R.own i _ (ownD_is ho)
  refine ⟨_, ha1, ρ, R, ?_⟩
  rw [hf]
  intro H1 E1 R1 y n1
  split at q
  case h_2 => exact q.elim
  rename_i k dd hk ho1
  have hi1 := ownD_is ho1
  obtain ⟨a', ha2, o'⟩ := R1.own i _ hi1
  rw [ha1] at ha2
  cases ha2
  cases hs : dSet dd k d with
  | none => rw [hs] at q; exact q.elim
  | some d' =>
    rw [hs] at q
    unfold dSet at hs
    split at hs
    case h_2 => cases hs
    rename_i ls j
    obtain ⟨vs, hv1, iv⟩ := o'
    cases hj : ixN ls.length j with
    | none => rw [hj] at hs; cases hs
    | some jj =>
      rw [hj] at hs
      cases hs
      have hy := (pk_rd n1 R1 (Ext.refl _) hk).int
      obtain ⟨e1, e2, e3⟩ := lst_upd hv1 (iv.set jj (Imm.ext E1 _ _ im))
      exact ⟨a, vs, j, jj, rfl, hy, hv1, by rw [iv.len]; exact hj, q σ _ (Chs.refl _ _) (E1.trans e1) (R1.put hi1 ha1 e2 e1 e3)⟩
/-! ### x op= e -/
def IpB (X : Cx) (op : Operator) (od : D → D → Option S) : Prop :=
  ∃ r : TIp, PIp X op r ∧ ∀ (x y : V) (H : Hp) (Q : VK) (d1 d2 : D) (s : S), Imm X.K H d1 x → Rd X.K H d2 y → od d1 d2 = some s → (∀ z H', Same H H' → RS X.K H H' s z → Q z H') → r x y H Q
def valD (ρ : Rho) (i : Nat) : Option D := match ρ[i]? with
  | some (some (.v d)) => some d
  | _ => none
theorem valD_is {ρ : Rho} {i : Nat} {d : D} (h : valD ρ i = some d) : ρ[i]? = some (some (.v d)) := by
  unfold valD at h
  split at h
  · rename_i d' h'; cases h; exact h'
  · cases h
def sAug (l : List Nat) (i : Nat) (od : D → D → Option S) (f : Ex) : Sx := fun ρ => liftO (valD ρ i) >>= fun d1 => f ρ >>= fun p => PL.pk p.2 p.1 >>= fun d2 => liftO (od d1 d2) >>= fun s => if i ∈ l then .stuck else .ok (.next (p.2.set i (some s)))
theorem s_aug {i : Nat} {x : Str} {op : Operator} {od : D → D → Option S} {f : Ex} {pos' : Pos} (sl : Slot g x i) (ho : ∀ X, At g X → IpB X op od) (h : EOk g e f) : SOk g (.AugAssign (.Name x pos') op e pos) (sAug g.ios i od f) := fun X W A tk => by
  obtain ⟨r, hr, hh⟩ := ho X A.toAt
  refine PS.imp (ps_aug (i := i) (by rw [A.N]; exact sl.nd) (by rw [A.N]; exact sl.ix) (by unfold L2.Loc; rw [A.sc]; exact sl.loc) (h.n A.toAt tk) hr (by rw [A.sc]; exact sl.fn.imp (A.fn x) id)) fun D σ H ⟨ρ, R, q⟩ => ?_
  obtain ⟨d1, hd1, q1⟩ := q.opt
  obtain ⟨x1, k1, k2⟩ := R.val i d1 (valD_is hd1)
  refine ⟨x1, k1, ρ, R, Ps_step q1 fun p _ q2 H1 E1 R1 y n => ?_⟩
  obtain ⟨d2, h2, q3⟩ := q2.pk
  obtain ⟨s, hs, q4⟩ := q3.opt
  refine hh x1 y H1 _ d1 d2 s (Imm.ext E1 _ _ k2) (pk_rd n R1 (Ext.refl _) h2) hs fun z H2 sm rs => ?_
  split at q4
  · exact q4.elim
  · rename_i hio
    have R2 := R1.same sm
    have b : BR X.K g p.2 σ H2 s z := by
      have sr := rs.sr R1
      cases s with
      | v d => exact sr
      | o d => exact sr
      | b j => exact rs.elim
    exact q4 _ H2 (E1.trans (Ext.of_same sm)) (R2.set b hio)
theorem ipB_of {op : Operator} {r : TIp} (hr : PIp X op r) {od : D → D → Option S} (h : ∀ (x y : V) (H : Hp) (Q : VK) (d1 d2 : D) (s : S), Imm X.K H d1 x → Rd X.K H d2 y → od d1 d2 = some s → (∀ z H', Same H H' → RS X.K H H' s z → Q z H') → r x y H Q) : IpB X op od := ⟨r, hr, h⟩
def iAdd : D → D → Option S
  | .int i, .int j => some (.v (.int (i + j)))
  | .str i, .str j => if i.length + j.length ≤ 16777216 then some (.v (.str (i ++ j))) else none
  | _, _ => none
theorem ip_or {op : Operator} {r r' : TIp} (h : PIp X op r) (h' : PIp X op r') : PIp X op (fun x y H Q => r x y H Q ∨ r' x y H Q) := fun pins s σ H x y v u Q I r1 r2 q => by
  rcases q with q | q
  · exact h pins s σ H x y v u Q I r1 r2 q
  · exact h' pins s σ H x y v u Q I r1 r2 q
theorem i_add (A : At g X) : IpB X .Add iAdd := by
  refine ⟨_, ip_or iop_add iop_add_str, fun x y H Q d1 d2 s r1 r2 h q => ?_⟩
  unfold iAdd at h
  split at h
  · cases h
    cases (show _ = _ from r1)
    cases r2.int
    exact .inl ⟨_, _, rfl, rfl, q _ H (Same.refl H) rfl⟩
  · split at h
    · rename_i hz
      cases h
      cases (show _ = _ from r1)
      cases r2.str
      exact .inr ⟨_, _, rfl, rfl, line_le hz, q _ H (Same.refl H) rfl⟩
    · cases h
  · cases h
def iInt (f : Int → Int → Option Int) : D → D → Option S
  | .int i, .int j => (f i j).map fun k => .v (.int k)
  | _, _ => none
theorem iInt_is {f : Int → Int → Option Int} {d1 d2 : D} {s : S} (h : iInt f d1 d2 = some s) : ∃ i j k, d1 = .int i ∧ d2 = .int j ∧ f i j = some k ∧ s = .v (.int k) := by
  unfold iInt at h
  split at h
  · rename_i i j
    cases hf : f i j with
    | none => rw [hf] at h; cases h
    | some k => rw [hf] at h; cases h; exact ⟨i, j, k, rfl, rfl, hf, rfl⟩
  · cases h
def iSub := iInt fun i j => some (i - j)
theorem i_sub (A : At g X) : IpB X .Sub iSub := by
  refine ⟨_, iop_sub, fun x y H Q d1 d2 s r1 r2 h q => ?_⟩
  obtain ⟨i, j, k, rfl, rfl, hf, rfl⟩ := iInt_is h
  cases hf
  cases (show _ = _ from r1)
  cases r2.int
  exact ⟨_, _, rfl, rfl, q _ H (Same.refl H) rfl⟩
end
end PL

/-! enumerate of anything that begins (Begins) -/
namespace PL
open PySem PySem.Spec PyProof.Rows L2
theorem enumNew {v : Value} {o : Obj} {H : Heap → Prop} (B : PySem.Begins v o H) :
    Meets (Builtin.«enumerate.__new__» ⟨[.type "enumerate", v], []⟩) (fun _ R s => H s.heap ∧
      R (.ok (.ret (.ref (s.heap.push o).objs.size))) { s with heap := (s.heap.push o).push { cls := .type "enumerate", data := .fields #[.none, .bool false, .ref s.heap.objs.size, rawInt 0, .none, .none] } }) :=
  .of_wp fun prog w A R s h => by
    obtain ⟨hp, g, d, tk, os⟩ := s; obtain ⟨h1, h⟩ := h
    have hsub := sub_enumerate
    have q1 : ∀ {A' : Around} {E : Value → Shared → Prop} {Q : Value → Shared → Prop}, Q (.ref hp.objs.size) ⟨hp.push o, g, d, tk, os⟩ → wpAny (model prog w) A' (pyIter v) Q E ⟨hp, g, d, tk, os⟩ :=
      fun q => B.iter prog w _ _ ⟨hp, g, d, tk, os⟩ _ h1 q
    wp_walk using q1
    refine wpAny_stack_any fun st => wpAny_pure ?_
    split
    · rename_i c _ _ _ _ _
      cases (c == Value.type "enumerate")
      · wp_walk using q1
        exact ⟨_, rfl, h⟩
      · wp_walk using q1
        exact ⟨_, rfl, h⟩
    · wp_walk using q1
      exact ⟨_, rfl, h⟩
section
variable {prog : Program} {w : World} {A : Around} {E : Value → Shared → Prop} {s : Shared}
theorem enum_begins1 {v : Value} {o : Obj} {H : Heap → Prop} {Q : Value → Shared → Prop} (B : PySem.Begins v o H) (h1 : H s.heap)
    (h : ∀ h', IsEnum h' (s.heap.objs.size + 1) s.heap.objs.size 0 .none → h'.get? s.heap.objs.size = some o → h'.objs.size = s.heap.objs.size + 2 →
      (∀ b o, s.heap.get? b = some o → h'.get? b = some o) → Q (.ref (s.heap.objs.size + 1)) { s with heap := h' }) :
    wpAny (model prog w) A (call (.type "enumerate") [v]) Q E s := by
  refine callType_new F.called_enumerate (by decide) (F.typeCall_enumerate_1 _) (F.newCall_enumerate_1 _) (fun obj => F.args_object_init_2 obj _) F.entry_enumerate_new
    (enumNew B) ⟨h1, ?_⟩
  have hz : (s.heap.push o).objs.size = s.heap.objs.size + 1 := Heap.size_push ..
  show _ ∧ _
  rw [hz]
  have he : IsEnum ((s.heap.push o).push { cls := .type "enumerate", data := .fields #[.none, .bool false, .ref s.heap.objs.size, rawInt 0, .none, .none] }) (s.heap.objs.size + 1) s.heap.objs.size 0 .none := by
    have := Heap.get?_push_size (s.heap.push o) (o := { cls := .type "enumerate", data := .fields #[.none, .bool false, .ref s.heap.objs.size, rawInt 0, .none, .none] }) rfl
    rw [hz] at this; exact this
  refine ⟨⟨_, he, rfl⟩, h _ he (Heap.get?_push_of_some _ (Heap.get?_push_size _ B.free)) (by rw [Heap.size_push, hz]) fun b o x => Heap.get?_push_of_some _ (Heap.get?_push_of_some _ x)⟩
end
theorem enumEnd {prog : Program} {w : World} {A : Around} {E : Value → Shared → Prop} {s : Shared} {e it t : Addr} {i : Nat} {c : Int} {items : Array Value} {old : Value} {Q : Option Value → Shared → Prop} (hh : A.handled = none)
    (he : IsEnum s.heap e it c old) (hit : s.heap.IsTupleIter it t i) (ht : s.heap.IsTuple t items) (hx : items[i]? = none)
    (hQ : ∀ h', Heap.ExtBut it s.heap h' → Q none { s with heap := h' }) : wpAny (model prog w) A (pyNext (.ref e)) Q E s := by
  have hT : s.TypeIs (.ref e) "enumerate" := ⟨_, he, rfl⟩
  unfold pyNext
  refine wpAny_bind (wpAny_attempt (wpAny_callSpecial?_slot (name := Str.ofString "__next__") hT F.slot_enumerate_next
    (wpAny_call_entry F.slot_enumerate_next hT F.entry_enumerate_next ?_ (F.args_enumerate_next_1 _))))
  show wpAny _ _ (field (.ref e) 2 >>= _) _ _ _
  refine wpAny_bind (wpAny_field he rfl (x := .ref it) rfl ?_)
  refine wpAny_bind (wpAny_nextOf_tuple_end hh hit ht hx fun h' x he' hx' => ?_)
  obtain ⟨o, ho, hc⟩ := hx'
  refine wpAny_bind (wpAny_isInstance (T := "StopIteration") (b := true) ⟨o, ho, hc⟩ isSubtype_stop ?_)
  exact wpAny_pure (hQ _ he')
/-- the tuple at a, each item in a new pair with its place -/
def IteT (K : PySem.W.Frag) (a : Addr) : It :=
  ⟨fun i H => ∃ (xs : List V) (x : V), SqT K H a xs ∧ xs[i]? = some x, fun i H v H' => ∃ T x, v = .ref T ∧ H T = none ∧ H' = upd H T (.tup [.int (i : Nat), x]) ∧ ∀ xs, SqT K H a xs → xs[i]? = some x, fun i H => ∃ xs : List V, SqT K H a xs ∧ xs.length ≤ i⟩
theorem turn_enumT {P : Program} {w : World} {K : PySem.W.Frag} {elts : List Expr} {kk : Nat} {tpos : Pos} (a e it : Addr) (hne : a ≠ it) (hae : a ≠ e) :
    Turn P w K (.Tuple elts kk tpos) (IteT K a) [e, it] e (fun i h => (∃ old, IsEnum h e it ((i : Nat) : Int) old) ∧ h.IsTupleIter it a i ∧ e ≠ it) where
  mem := by simp
  obj := fun i h st b hb => by
    obtain ⟨⟨old, he⟩, ⟨o, ho, hc, hd⟩, _⟩ := st
    have e' : b = e ∨ b = it := by simpa using hb
    rcases e' with z | z
    · rw [z]; exact ⟨_, he, fun v q => nomatch q⟩
    · rw [z]; exact ⟨o, ho, fun v q => by rw [hd] at q; cases q⟩
  keep := fun i h h' st k => let ⟨⟨old, he⟩, hi, hne⟩ := st; ⟨⟨old, k e (by simp) _ he⟩, hi.at fun o q => k it (by simp) o q, hne⟩
  item := by
    intro X hP hw hK hc i pins s σ H E I hf st hg
    subst hP hw hK
    obtain ⟨⟨old, he⟩, hit, hei⟩ := st
    obtain ⟨xs, x, hq, hx⟩ := hg
    obtain ⟨its, rv, p, hz⟩ := I.tuple hq
    obtain ⟨u, hu, ru⟩ := rv.get hx
    have hel : e < s.heap.objs.size := Heap.lt_size he
    have hil : it < s.heap.objs.size := by obtain ⟨_, q, _⟩ := hit; exact Heap.lt_size q
    have hil2 : i < its.toArray.size := by
      rcases Nat.lt_or_ge i its.length with z | z
      · simpa using z
      · rw [List.getElem?_eq_none z] at hu; cases hu
    refine wpAny_pyNext_enum_itemD (Draws.tuple (A := X.A.in1) (show X.A.in1.handled = none from I.ok.hd hc) it a hne its.toArray) he ⟨hit, p⟩ hil2 hei (fun z => by
      rcases List.mem_cons.mp z with z | z
      · exact hei z
      · exact hae (List.mem_singleton.mp z).symm) fun u' h' tk hu' ho hst' hT hsz hk => ?_
    have hu2 : u' = u := by
      have : its.toArray[i]? = some u' := hu'
      rw [List.getElem?_toArray, hu] at this
      exact (Option.some.inj this).symm
    subst hu2
    obtain ⟨hit', _⟩ := hst'
    refine ⟨_, rfl, wpAny_letOwnedTupleGo_enum (s := { s with heap := h', toks := tk + 1 }) ho fun h'' he' sb => ?_⟩
    have hT2 : h''.get? s.heap.objs.size = some { cls := .type "tuple", data := .seq #[.int i tk, u'] } := (sb.2 _ (Nat.ne_of_gt hel)).trans hT
    have new : ObjOk X.prog X.w (upd H s.heap.objs.size (.tup [.int (i : Nat), x])) h'' s.heap.objs.size (.tup [.int (i : Nat), x]) :=
      ⟨by show 2 ≤ sizeLine; decide, [.int i tk, u'], .cons ⟨_, rfl⟩ (.cons ru .nil), ⟨_, hT2, rfl, _, rfl⟩⟩
    have I1 : Inv X pins σ (upd H s.heap.objs.size (.tup [.int (i : Nat), x])) { s with heap := h'', toks := tk + 1 } :=
      I.turnedNew (ch := [e, it]) (fun b ob hb q => (sb.2 b (fun z => hb (by simp [z]))).trans (hk b ob (fun z => hb (by simp [z])) (fun z => hb (by simp [z])) q)) hf (Nat.le_refl _) new
    refine ⟨.ref s.heap.objs.size, _, I1, rfl, ⟨_, x, rfl, I.hok.fresh (Nat.le_refl _), rfl, fun ys hy => by rw [I.tuple_inj hy hq]; exact hx⟩, ⟨⟨u', ?_⟩, hit'.at fun o q => (sb.2 it (Ne.symm hei)).trans q, hei⟩, fun b hb => ?_⟩
    · have e1 : ((i + 1 : Nat) : Int) = (i : Int) + 1 := by omega
      rw [e1]; exact he'
    · have hb' : b < s.heap.objs.size := by
        have e' : b = e ∨ b = it := by simpa using hb
        rcases e' with z | z
        · rw [z]; exact hel
        · rw [z]; exact hil
      rw [upd_ne (Nat.ne_of_lt hb')]
      exact (hf b hb).1
  done := by
    intro X hP hw hK hc i pins s σ H E I hf st hg
    subst hP hw hK
    obtain ⟨⟨old, he⟩, hit, hei⟩ := st
    obtain ⟨xs, hq, hx⟩ := hg
    obtain ⟨its, rv, p, hz⟩ := I.tuple hq
    obtain ⟨f0, f1, f2, f3, f4, f5⟩ := hf it (by simp)
    have hl := rv.length
    have hle : its.toArray[i]? = none := by simp; omega
    refine enumEnd (I.ok.hd hc) he hit p hle fun h' eb => ⟨rfl, I.turned (t' := s.toks) (fun b o hb q => eb b o hb q) f0 f1 f3 f4 f5⟩
  self := fun A i s Q E st h => let ⟨⟨_, he⟩, _⟩ := st; wpAny_pyIter_enum he h
/-- enumerate(x), x a list or a tuple -/
def iEnumA (K : PySem.W.Frag) (ta : TA) : TI := fun σ H R => ta σ H fun vs H1 => ∃ a xs, vs = [.ref a] ∧ ((SqL K H1 a xs ∧ R (Ite K a) H1) ∨ (SqT K H1 a xs ∧ R (IteT K a) H1))
theorem pi_enumA {X : Cx} {e : Expr} {ta : TA} {p pos tpos : Pos} {elts : List Expr} {kk : Nat} (hg : Gl X "enumerate") (hm : X.mg "enumerate" = none) (ha : PA X [e] ta) (hs : starEach [e] X.env = [(false, eval e X.env)] := by rfl) :
    PI X (.Tuple elts kk tpos) (.Call (.Name "enumerate" p) [e] [] pos) (iEnumA X.K ta) := by
  refine ⟨fun pins s σ H R I h => ?_⟩
  refine Call_ (ld_blt I hg hm boot_enumerate (PyProof.Rows.callWith_type1 (thn (ha.run pos pins s σ H _ I h) fun us s1 ⟨vs, H1, I1, r1, q1⟩ => ?_) hs rfl))
  obtain ⟨a, xs, ex, hq⟩ := q1
  subst ex
  cases r1 with
  | cons r rr =>
    cases rr
    cases r
    have fp : ∀ b, b ∈ [s1.heap.objs.size + 1, s1.heap.objs.size] → FpOk X pins H1 b := fun b hb => by
      have e' : b = s1.heap.objs.size + 1 ∨ b = s1.heap.objs.size := by simpa using hb
      have hle : s1.heap.objs.size ≤ b := by
        rcases e' with z | z
        · rw [z]; exact Nat.le_add_right _ _
        · rw [z]; exact Nat.le_refl _
      exact I1.fpOk hle (I1.hok.fresh hle)
    rcases hq with ⟨hq, q⟩ | ⟨hq, q⟩
    · obtain ⟨its, rv, p', hz⟩ := I1.list hq
      refine call_enumerate_list p'.isList fun h' he hit hsz hk => wpAny_pyIter_enum he ?_
      have I2 : Inv X pins σ H1 { s1 with heap := h' } := I1.kept (t' := s1.toks) hk
      exact ⟨s1.heap.objs.size + 1, [s1.heap.objs.size + 1, s1.heap.objs.size], _, _, H1, rfl, I2, turn_enum a (s1.heap.objs.size + 1) s1.heap.objs.size, ⟨⟨.none, he⟩, hit, Nat.succ_ne_self _⟩, fp, q⟩
    · obtain ⟨its, rv, p', hz⟩ := I1.tuple hq
      have hal : a < s1.heap.objs.size := by obtain ⟨_, e1, _⟩ := id p'; exact Heap.lt_size e1
      refine enum_begins1 (begins_tuple a its.toArray) p' fun h' he hit hsz hk => wpAny_pyIter_enum he ?_
      have I2 : Inv X pins σ H1 { s1 with heap := h' } := I1.kept (t' := s1.toks) hk
      exact ⟨s1.heap.objs.size + 1, [s1.heap.objs.size + 1, s1.heap.objs.size], _, _, H1, rfl, I2, turn_enumT a (s1.heap.objs.size + 1) s1.heap.objs.size (Nat.ne_of_lt hal) (Nat.ne_of_lt (Nat.lt_succ_of_lt hal)), ⟨⟨.none, he⟩, ⟨_, hit, rfl, rfl⟩, Nat.succ_ne_self _⟩, fp, q⟩
section
variable {g : Cf} {X : Cx} {e a b c tg : Expr} {es : List Expr} {pos : Pos}
theorem walk_enumT {K : PySem.W.Frag} {a : Addr} {xs : List V} : Walk (IteT K a) xs.length (fun H => SqT K H a xs) (YPair (fun i => some (.int (i : Nat))) (fun i => xs[i]?)) := by
  refine ⟨fun i _ hi q => ⟨xs, xs[i], q, by simp [hi]⟩, fun _ q => ⟨xs, q, Nat.le_refl _⟩, fun i H v H' _ q y => ?_⟩
  obtain ⟨T, x, h1, h2, h3, h4⟩ := y
  exact ⟨T, .int (i : Nat), x, h1, h2, h3, rfl, h4 xs q⟩
def enD : Nat → List D → List D
  | _, [] => []
  | k, d :: ds => .tup [.int (k : Nat), d] :: enD (k + 1) ds
theorem enD_len : ∀ (ds : List D) (k : Nat), (enD k ds).length = ds.length
  | [], _ => rfl
  | d :: ds, k => by rw [enD, List.length_cons, List.length_cons, enD_len ds]
theorem enD_get : ∀ (ds : List D) (k i : Nat), (enD k ds)[i]? = ds[i]?.map fun d => .tup [.int ((k + i : Nat) : Int), d]
  | [], _, _ => by simp [enD]
  | d :: ds, k, 0 => by simp [enD]
  | d :: ds, k, i + 1 => by
    rw [enD, List.getElem?_cons_succ, enD_get ds (k + 1) i, List.getElem?_cons_succ]
    rw [show k + 1 + i = k + (i + 1) by omega]
/-- from a walk of new pairs -/
theorem it_pair {K : PySem.W.Frag} {J : It} {H : Hp} {G : Hp → Prop} {n : Nat} {fx fy : Nat → Option V} {ps : List D} (hn : ps.length = n) (w : Walk J n G (YPair fx fy)) (g : G H) (gs : ∀ H1 H2, Ext H1 H2 → G H1 → G H2)
    (hp : ∀ i H1 x y, i < n → G H1 → fx i = some x → fy i = some y → ∃ d e, ps[i]? = some (.tup [d, e]) ∧ Imm K H1 d x ∧ Imm K H1 e y) : ItOk K J ps H := by
  subst hn
  refine ⟨G, _, w, g, gs, fun i H1 v H2 hi hg hy => ?_⟩
  obtain ⟨T, x, y, rfl, hT, rfl, h1, h2⟩ := hy
  obtain ⟨d, e, h3, h4, h5⟩ := hp i H1 x y hi hg h1 h2
  have sm : Same H1 (upd H1 T (.tup [x, y])) := new_tup (K := K) hT
  exact ⟨sm, _, h3, T, _, rfl, TpT.of upd_same, x, [y], rfl, Imm.ext (Ext.of_same sm) _ _ h4, y, [], rfl, Imm.ext (Ext.of_same sm) _ _ h5, rfl⟩
theorem it_enT {K : PySem.W.Frag} {H : Hp} {ds : List D} {vs : List V} {a : Addr} (h1 : TpT K H a vs) (h2 : ImmL K H ds vs) : ItOk K (IteT K a) (enD 0 ds) H := by
  refine it_pair (by rw [enD_len, ← h2.len]) (walk_enumT.mono (G' := fun H => TpT K H a vs ∧ ImmL K H ds vs) (fun H g => g.1.seq) fun _ _ _ _ _ _ y => y) ⟨h1, h2⟩ (fun H1 H2 e g => ⟨e.sqT g.1, ImmL.ext e _ _ g.2⟩) fun i H1 x y hi g hx hy => ?_
  cases hx
  obtain ⟨d, hd, im⟩ := g.2.get hy
  exact ⟨.int (i : Nat), d, by rw [enD_get, hd, Nat.zero_add]; rfl, rfl, im⟩
theorem it_enL {K : PySem.W.Frag} {H : Hp} {ds : List D} {vs : List V} {a : Addr} (h1 : FzL K H a vs) (h2 : ImmL K H ds vs) : ItOk K (Ite K a) (enD 0 ds) H := by
  refine it_pair (by rw [enD_len, ← h2.len]) (walk_enum.mono (G' := fun H => FzL K H a vs ∧ ImmL K H ds vs) (fun H g => g.1.seq) fun _ _ _ _ _ _ y => y) ⟨h1, h2⟩ (fun H1 H2 e g => ⟨e.fzL g.1, ImmL.ext e _ _ g.2⟩) fun i H1 x y hi g hx hy => ?_
  cases hx
  obtain ⟨d, hd, im⟩ := g.2.get hy
  exact ⟨.int (i : Nat), d, by rw [enD_get, hd, Nat.zero_add]; rfl, rfl, im⟩
theorem it_enS {K : PySem.W.Frag} {H : Hp} {ns : List Int} {a : Addr} (h1 : ScrL K H a (ns.map V.int)) : ItOk K (Ite K a) (enD 0 (ns.map .int)) H := by
  refine it_pair (n := (ns.map V.int).length) (by rw [enD_len, List.length_map, List.length_map]) (walk_enum.mono (G' := fun H => ScrL K H a (ns.map V.int)) (fun H g => g.seq) fun _ _ _ _ _ _ y => y) h1 (fun H1 H2 e g => e.scrL g) fun i H1 x y hi g hx hy => ?_
  cases hx
  obtain ⟨d, hd, im⟩ := (immL_map_int (K := K) (H := H1) ns).get hy
  exact ⟨.int (i : Nat), d, by rw [enD_get, hd, Nat.zero_add]; rfl, rfl, im⟩
def dSeq : D → Option (List D)
  | .tup ds => some ds
  | .lst ds => some ds
  | .scr ns => some (ns.map .int)
  | _ => none
def iEn (l : List Nat) (f : Ex) : Ix := fun ρ => eF l f ρ >>= fun p => liftO (dSeq p.1) >>= fun ds => .ok (enD 0 ds, p.2)
theorem aF_one {l : List Nat} {f : Ex} (ρ : Rho) : aF l (aCons f aNil) ρ = (eF l f ρ >>= fun p => Out.ok ([p.1], p.2)) := by
  unfold aF aCons aNil eF
  cases f ρ with
  | stuck => rfl
  | exc c ρ1 => rfl
  | ok p =>
    obtain ⟨s, ρ1⟩ := p
    show fzL l [s] ρ1 = (fz l s ρ1 >>= fun p => Out.ok ([p.1], p.2))
    simp only [fzL, bind_ok]
theorem i_en {p tpos : Pos} {elts : List Expr} {kk : Nat} {f : Ex} (hm : g.mg "enumerate" = none) (ha : EOk g e f) (hg : Glo g "enumerate" := by rfl) (hs : ∀ env, starEach [e] env = (false, eval e env) :: starEach [] env := by intro _; rfl) :
    IOk g (.Tuple elts kk tpos) (.Call (.Name "enumerate" p) [e] [] pos) (iEn g.ios f) := fun X W A tk => by
  refine PI.imp (pi_enumA (hg.gl A) (by rw [A.mg]; exact hm) ((a_cons ha a_nil hs).f A tk) (hs _)) fun σ H Q ⟨ρ, R, q⟩ => ?_
  have q : Pst X.K g σ H W (fun p H' => ER X.K g p.2 σ H' → ∀ J, ItOk X.K J p.1 H' → Q J H') (aF g.ios (aCons f aNil) ρ >>= fun p => liftO (match p.1 with | [d] => dSeq d | _ => none) >>= fun ds => .ok (enD 0 ds, p.2)) := by
    rw [aF_one]
    unfold iEn at q
    cases hf : eF g.ios f ρ with
    | stuck => rw [hf] at q; exact q.elim
    | exc c ρ1 => rw [hf] at q; exact q
    | ok p => rw [hf] at q; exact q
  refine tAF_step R q fun ds ρ1 xs H1 R1 E1 im q1 => ?_
  obtain ⟨es', hd, q2⟩ := q1.opt
  match ds, hd with
  | [d], hd =>
    obtain ⟨x, rfl, ix⟩ := immL_1 im
    cases d with
    | tup ds =>
      cases hd
      obtain ⟨a, vs, rfl, s1, i1⟩ := ix
      exact ⟨a, vs, rfl, .inr ⟨s1.seq, q2 H1 (Ext.refl _) R1 _ (it_enT s1 i1)⟩⟩
    | lst ds =>
      cases hd
      obtain ⟨a, vs, rfl, s1, i1⟩ := ix
      exact ⟨a, vs, rfl, .inl ⟨s1.seq, q2 H1 (Ext.refl _) R1 _ (it_enL s1 i1)⟩⟩
    | scr ns =>
      cases hd
      obtain ⟨a, rfl, s1⟩ := ix
      exact ⟨a, _, rfl, .inl ⟨s1.seq, q2 H1 (Ext.refl _) R1 _ (it_enS s1)⟩⟩
    | _ => cases hd
/-! ### zip -/
def zpD : List D → List D → List D
  | d :: ds, e :: es => .tup [d, e] :: zpD ds es
  | _, _ => []
theorem zpD_len : ∀ (ds es : List D), (zpD ds es).length = min ds.length es.length
  | [], _ => by simp [zpD]
  | d :: ds, [] => by simp [zpD]
  | d :: ds, e :: es => by simp only [zpD, List.length_cons, zpD_len ds es]; omega
theorem zpD_get : ∀ (ds es : List D) (i : Nat) (d e : D), ds[i]? = some d → es[i]? = some e → (zpD ds es)[i]? = some (.tup [d, e])
  | [], _, _, _, _, h, _ => by simp at h
  | d :: ds, [], _, _, _, _, h => by simp at h
  | d :: ds, e :: es, 0, _, _, h, h' => by simp at h h'; subst h; subst h'; rfl
  | d :: ds, e :: es, i + 1, d', e', h, h' => by
    rw [List.getElem?_cons_succ] at h h'
    rw [zpD, List.getElem?_cons_succ]
    exact zpD_get ds es i d' e' h h'
theorem walk_zipT {K : PySem.W.Frag} {a b : Addr} {xs ys : List V} : Walk (RZ.ItzT K a b) (min xs.length ys.length) (fun H => SqT K H a xs ∧ SqT K H b ys) (YPair (fun i => xs[i]?) (fun i => ys[i]?)) := by
  refine ⟨fun i _ hi q => ?_, fun _ q => ⟨xs, ys, q.1, q.2, by omega⟩, fun i H v H' _ q y => ?_⟩
  · have h1 : i < xs.length := by omega
    have h2 : i < ys.length := by omega
    exact ⟨xs, ys, xs[i], ys[i], q.1, q.2, by simp [h1], by simp [h2]⟩
  · obtain ⟨T, x, z, h1, h2, h3, h4, h5⟩ := y
    exact ⟨T, x, z, h1, h2, h3, h4 xs q.1, h5 ys q.2⟩
/-- what reads as a list: tracked locked, or the script -/
def LsR (K : PySem.W.Frag) (H : Hp) (d : D) (ds : List D) (a : Addr) (vs : List V) : Prop := (d = .lst ds ∧ FzL K H a vs ∧ ImmL K H ds vs) ∨ ∃ ns, d = .scr ns ∧ ds = ns.map .int ∧ vs = ns.map V.int ∧ ScrL K H a vs
theorem LsR.seq {K : PySem.W.Frag} {H : Hp} {d : D} {ds : List D} {a : Addr} {vs : List V} (h : LsR K H d ds a vs) : SqL K H a vs := by
  rcases h with ⟨_, h, _⟩ | ⟨ns, _, _, _, h⟩
  · exact h.seq
  · exact h.seq
theorem LsR.imm {K : PySem.W.Frag} {H : Hp} {d : D} {ds : List D} {a : Addr} {vs : List V} (h : LsR K H d ds a vs) : ImmL K H ds vs := by
  rcases h with ⟨_, _, h⟩ | ⟨ns, _, rfl, rfl, _⟩
  · exact h
  · exact immL_map_int ns
theorem LsR.ext {K : PySem.W.Frag} {H H' : Hp} (e : Ext H H') {d : D} {ds : List D} {a : Addr} {vs : List V} (h : LsR K H d ds a vs) : LsR K H' d ds a vs := by
  rcases h with ⟨h1, h2, h3⟩ | ⟨ns, h1, h2, h3, h4⟩
  · exact .inl ⟨h1, e.fzL h2, ImmL.ext e _ _ h3⟩
  · exact .inr ⟨ns, h1, h2, h3, e.scrL h4⟩
theorem ls_of {K : PySem.W.Frag} {H : Hp} {d : D} {ds : List D} {x : V} (h : Imm K H d x) (hd : dSeq d = some ds) (ht : ∀ es, d ≠ .tup es) : ∃ a vs, x = .ref a ∧ LsR K H d ds a vs := by
  cases d with
  | lst es => cases hd; obtain ⟨a, vs, rfl, h1, h2⟩ := h; exact ⟨a, vs, rfl, .inl ⟨rfl, h1, h2⟩⟩
  | scr ns => cases hd; obtain ⟨a, rfl, h1⟩ := h; exact ⟨a, _, rfl, .inr ⟨ns, rfl, rfl, rfl, h1⟩⟩
  | tup es => exact absurd rfl (ht es)
  | _ => cases hd
def isTupD : D → Bool
  | .tup _ => true
  | _ => false
def zip2 : List D → Option (List D)
  | [d, e] => if isTupD d = isTupD e then (dSeq d).bind fun ds => (dSeq e).map fun es => zpD ds es else none
  | _ => none
def iZp (l : List Nat) (fa : Ax) : Ix := fun ρ => aF l fa ρ >>= fun p => liftO (zip2 p.1) >>= fun ds => .ok (ds, p.2)
theorem it_zp {K : PySem.W.Frag} {H : Hp} {J : It} {ds es : List D} {xs ys : List V} {G : Hp → Prop} (w : Walk J (min xs.length ys.length) G (YPair (fun i => xs[i]?) (fun i => ys[i]?))) (g : G H) (gs : ∀ H1 H2, Ext H1 H2 → G H1 → G H2) (h1 : ∀ H, G H → ImmL K H ds xs) (h2 : ∀ H, G H → ImmL K H es ys) : ItOk K J (zpD ds es) H := by
  refine it_pair (by rw [zpD_len, (h1 H g).len, (h2 H g).len]) w g gs fun i H1 x y hi g1 hx hy => ?_
  obtain ⟨d, hd, i1⟩ := (h1 H1 g1).get hx
  obtain ⟨e, he, i2⟩ := (h2 H1 g1).get hy
  exact ⟨d, e, zpD_get ds es i d e hd he, i1, i2⟩
theorem i_zp {p tpos : Pos} {elts : List Expr} {kk : Nat} {fa : Ax} (hm : g.mg "zip" = none) (ha : AOk g [a, b] fa) (hg : Glo g "zip" := by rfl) (hs : ∀ env, starEach [a, b] env = (false, eval a env) :: starEach [b] env := by intro _; rfl) (hpl : ∀ env, (backTo pos (starEach [b] env)).any (·.1) = false := by intro _; rfl) :
    IOk g (.Tuple elts kk tpos) (.Call (.Name "zip" p) [a, b] [] pos) (iZp g.ios fa) := fun X W A tk => by
  refine PI.imp (RZ.pi_zipA (hg.gl A) (by rw [A.mg]; exact hm) (ha.f A tk) (hs _) (hpl _)) fun σ H Q ⟨ρ, R, q⟩ => ?_
  refine tAF_step R q fun ds ρ1 xs H1 R1 E1 im q1 => ?_
  obtain ⟨ps, hd, q2⟩ := q1.opt
  match ds, hd with
  | [d, e], hd =>
    obtain ⟨x, y, rfl, ix, iy⟩ := immL_2 im
    simp only [zip2] at hd
    split at hd
    case isFalse => cases hd
    rename_i ht
    cases h1 : dSeq d with
    | none => rw [h1] at hd; cases hd
    | some ds =>
      cases h2 : dSeq e with
      | none => rw [h1, h2] at hd; cases hd
      | some es =>
        rw [h1, h2] at hd
        cases hd
        by_cases hT : isTupD d = true
        · have hT' := ht.symm.trans hT
          cases d <;> cases hT
          cases e <;> cases hT'
          cases h1
          cases h2
          obtain ⟨a1, v1, rfl, s1, i1⟩ := ix
          obtain ⟨a2, v2, rfl, s2, i2⟩ := iy
          exact ⟨a1, a2, v1, v2, rfl, .inr ⟨s1.seq, s2.seq, q2 H1 (Ext.refl _) R1 _ (it_zp (walk_zipT.mono (G' := fun H => (TpT X.K H a1 v1 ∧ ImmL X.K H ds v1) ∧ TpT X.K H a2 v2 ∧ ImmL X.K H es v2) (fun H g => ⟨g.1.1.seq, g.2.1.seq⟩) fun _ _ _ _ _ _ y => y) ⟨⟨s1, i1⟩, s2, i2⟩ (fun _ _ e g => ⟨⟨e.sqT g.1.1, ImmL.ext e _ _ g.1.2⟩, e.sqT g.2.1, ImmL.ext e _ _ g.2.2⟩) (fun _ g => g.1.2) fun _ g => g.2.2)⟩⟩
        · have hT' : ¬ isTupD e = true := fun z => hT (ht.trans z)
          obtain ⟨a1, v1, rfl, s1⟩ := ls_of ix h1 fun es z => hT (by rw [z]; rfl)
          obtain ⟨a2, v2, rfl, s2⟩ := ls_of iy h2 fun es z => hT' (by rw [z]; rfl)
          exact ⟨a1, a2, v1, v2, rfl, .inl ⟨s1.seq, s2.seq, q2 H1 (Ext.refl _) R1 _ (it_zp ((walk_zip rfl).mono (G' := fun H => LsR X.K H d ds a1 v1 ∧ LsR X.K H e es a2 v2) (fun H g => ⟨g.1.seq, g.2.seq⟩) fun _ _ _ _ _ _ y => y) ⟨s1, s2⟩ (fun _ _ e g => ⟨g.1.ext e, g.2.ext e⟩) (fun _ g => g.1.imm) fun _ g => g.2.imm)⟩⟩
end
end PL

/-! what the mirrors compute: equations for simp -/
namespace PL
open PySem PySem.Spec PyProof.Rows L2
/-- bind, written so that simp looks at the first reckoning alone -/
abbrev Wit {α β : Type} (_ : α → Out β) : Type := Unit
def bnd {α β : Type} (k : α → Out β) (w : Wit k) (r : Out α) : Out β := r >>= k
@[simp ↓] theorem x_bind {α β : Type} (r : Out α) (k : α → Out β) : (r >>= k) = bnd k () r := (rfl)
@[simp] theorem x_bnd1 {α β : Type} (a : α) (k : α → Out β) (w : Wit k) : bnd k w (.ok a) = k a := (rfl)
@[simp] theorem x_bnd2 {α β : Type} (c : Str) (ρ : Rho) (k : α → Out β) (w : Wit k) : bnd k w (.exc c ρ) = .exc c ρ := (rfl)
@[simp] theorem x_bnd3 {α β : Type} (k : α → Out β) (w : Wit k) : bnd k w .stuck = .stuck := (rfl)
section
variable {ρ : Rho} {od : D → D → Option S} {l : List Nat}
@[simp] theorem x_runF (m : Nat) (f : Sx) (ds : List D) : runF m f ds = (f (rhoV m ds) >>= endF) := (rfl)
@[simp] theorem x_rhoV (m : Nat) (ds : List D) : rhoV m ds = ds.map (fun d => some (S.v d)) ++ List.replicate m none := (rfl)
@[simp] theorem x_endF1 (s : S) (ρ : Rho) : endF (.ret s ρ) = .ok s := (rfl)
@[simp] theorem x_endF2 (ρ : Rho) : endF (.next ρ) = .ok (.v .non) := (rfl)
@[simp] theorem x_eC (d : D) : eC d ρ = .ok (.v d, ρ) := (rfl)
@[simp] theorem x_eVar (i : Nat) : eVar i ρ = (match ρ[i]? with
  | some (some (.v d)) => .ok (.v d, ρ)
  | some (some (.o _)) => .ok (.b i, ρ)
  | _ => .stuck) := (rfl)
@[simp] theorem x_pkv (d : D) : pk ρ (.v d) = .ok d := (rfl)
@[simp] theorem x_pko (d : D) : pk ρ (.o d) = .ok d := (rfl)
@[simp] theorem x_pkb (i : Nat) : pk ρ (.b i) = (match ρ[i]? with
    | some (some (.o d)) => .ok d
    | some (some (.v d)) => .ok d
    | _ => .stuck) := (rfl)
@[simp] theorem x_e2 (fa fb : Ex) : e2 od fa fb ρ = (fa ρ >>= fun p => fb p.2 >>= fun q => pk q.2 p.1 >>= fun d1 => pk q.2 q.1 >>= fun d2 => liftO (od d1 d2) >>= fun s => .ok (s, q.2)) := (rfl)
@[simp] theorem x_e1 (od : D → Option S) (fa : Ex) : e1 od fa ρ = (fa ρ >>= fun p => pk p.2 p.1 >>= fun d1 => liftO (od d1) >>= fun s => .ok (s, p.2)) := (rfl)
@[simp] theorem x_bE (t : Tx) : bE t ρ = (t ρ >>= fun p => .ok (.v (.bl p.1), p.2)) := (rfl)
@[simp] theorem x_tTru (fa : Ex) : tTru fa ρ = (fa ρ >>= fun p => pk p.2 p.1 >>= fun d => liftO (dTru d) >>= fun b => .ok (b, p.2)) := (rfl)
@[simp] theorem x_t2 (od : D → D → Option Bool) (fa fb : Ex) : t2 od fa fb ρ = (fa ρ >>= fun p => fb p.2 >>= fun q => pk q.2 p.1 >>= fun d1 => pk q.2 q.1 >>= fun d2 => liftO (od d1 d2) >>= fun k => .ok (k, q.2)) := (rfl)
@[simp] theorem x_tCh (od od' : D → D → Option Bool) (fa fb fc : Ex) : tCh od od' fa fb fc ρ = (fa ρ >>= fun p => fb p.2 >>= fun q => pk q.2 p.1 >>= fun d1 => pk q.2 q.1 >>= fun d2 => liftO (od d1 d2) >>= fun k =>
  if k = true then fc q.2 >>= fun r => pk r.2 q.1 >>= fun d2 => pk r.2 r.1 >>= fun d3 => liftO (od' d2 d3) >>= fun k' => .ok (k', r.2) else .ok (false, q.2)) := (rfl)
@[simp] theorem x_tAnd (t u : Tx) : tAnd t u ρ = (t ρ >>= fun p => if p.1 = true then u p.2 else .ok (false, p.2)) := (rfl)
@[simp] theorem x_tOr (t u : Tx) : tOr t u ρ = (t ρ >>= fun p => if p.1 = true then .ok (true, p.2) else u p.2) := (rfl)
@[simp] theorem x_tNot (t : Tx) : tNot t ρ = (t ρ >>= fun p => .ok (!p.1, p.2)) := (rfl)
@[simp] theorem x_eAnd (fa fb : Ex) : eAnd fa fb ρ = (fa ρ >>= fun p => pk p.2 p.1 >>= fun d => match d with
  | .bl true => fb p.2
  | .bl false => .ok (.v (.bl false), p.2)
  | _ => .stuck) := (rfl)
@[simp] theorem x_eOr (fa fb : Ex) : eOr fa fb ρ = (fa ρ >>= fun p => pk p.2 p.1 >>= fun d => match d with
  | .bl true => .ok (.v (.bl true), p.2)
  | .bl false => fb p.2
  | _ => .stuck) := (rfl)
@[simp] theorem x_eNot (fa : Ex) : eNot fa ρ = (fa ρ >>= fun p => pk p.2 p.1 >>= fun d => match d with
  | .bl k => .ok (.v (.bl (!k)), p.2)
  | _ => .stuck) := (rfl)
@[simp] theorem x_eIf (t : Tx) (fa fb : Ex) : eIf t fa fb ρ = (t ρ >>= fun p => if p.1 = true then fa p.2 else fb p.2) := (rfl)
@[simp] theorem x_fzv (d : D) : fz l (.v d) ρ = .ok (d, ρ) := (rfl)
@[simp] theorem x_fzo (d : D) : fz l (.o d) ρ = .ok (d, ρ) := (rfl)
@[simp] theorem x_fzb (i : Nat) : fz l (.b i) ρ = (if i ∈ l then .stuck else match ρ[i]? with
    | some (some (.o d)) => .ok (d, ρ.set i (some (.v d)))
    | some (some (.v d)) => .ok (d, ρ)
    | _ => .stuck) := (rfl)
@[simp] theorem x_fzL0 : fzL l [] ρ = .ok ([], ρ) := (rfl)
@[simp] theorem x_fzL1 (s : S) (ss : List S) : fzL l (s :: ss) ρ = (fz l s ρ >>= fun p => fzL l ss p.2 >>= fun q => .ok (p.1 :: q.1, q.2)) := (rfl)
@[simp] theorem x_eF (f : Ex) : eF l f ρ = (f ρ >>= fun p => fz l p.1 p.2) := (rfl)
@[simp] theorem x_aNil : aNil ρ = .ok ([], ρ) := (rfl)
@[simp] theorem x_aCons (f : Ex) (r : Ax) : aCons f r ρ = (f ρ >>= fun p => r p.2 >>= fun q => .ok (p.1 :: q.1, q.2)) := (rfl)
@[simp] theorem x_aF (f : Ax) : aF l f ρ = (f ρ >>= fun p => fzL l p.1 p.2) := (rfl)
@[simp] theorem x_eTup (f : Ax) : eTup l f ρ = (aF l f ρ >>= fun p => if p.1.length ≤ 16777216 then .ok (.v (.tup p.1), p.2) else .stuck) := (rfl)
@[simp] theorem x_eLst (f : Ax) : eLst l f ρ = (aF l f ρ >>= fun p => if p.1.length ≤ 16777216 then .ok (.o (.lst p.1), p.2) else .stuck) := (rfl)
@[simp] theorem x_pNo : pNo ρ = .ok (none, ρ) := (rfl)
@[simp] theorem x_pSo (f : Ex) : pSo f ρ = (f ρ >>= fun p => pk p.2 p.1 >>= fun d => liftO (dInt d) >>= fun i => .ok (some i, p.2)) := (rfl)
@[simp] theorem x_dInt (i : Int) : dInt (.int i) = some i := (rfl)
@[simp] theorem x_eSl (f : Ex) (lo hi : Px) : eSl f lo hi ρ = (f ρ >>= fun p => lo p.2 >>= fun q => hi q.2 >>= fun r => pk r.2 p.1 >>= fun d => liftO (dSl d q.1 r.1) >>= fun s => .ok (s, r.2)) := (rfl)
@[simp] theorem x_pkL0 : pkL ρ [] = .ok [] := (rfl)
@[simp] theorem x_pkL1 (s : S) (ss : List S) : pkL ρ (s :: ss) = (pk ρ s >>= fun d => pkL ρ ss >>= fun ds => .ok (d :: ds)) := (rfl)
@[simp] theorem x_eB (od : List D → Option S) (fa : Ax) : eB od fa ρ = (fa ρ >>= fun p => pkL p.2 p.1 >>= fun ds => liftO (od ds) >>= fun s => .ok (s, p.2)) := (rfl)
@[simp] theorem x_tIsi (f : D → Option Bool) (fa : Ex) : tIsi f fa ρ = (fa ρ >>= fun p => pk p.2 p.1 >>= fun d => liftO (f d) >>= fun k => .ok (k, p.2)) := (rfl)
@[simp] theorem x_eCall (n : Nat) (F : Fn) (fa : Ax) : eCall l n F fa ρ = (aF l fa ρ >>= fun p => if p.1.length = n then atR p.2 (F p.1) else .stuck) := (rfl)
@[simp] theorem x_atR1 (s : S) : atR ρ (.ok s) = .ok (s, ρ) := (rfl)
@[simp] theorem x_atR2 (c : Str) (ρ' : Rho) : atR ρ (.exc c ρ') = .exc c ρ := (rfl)
/-! statements -/
@[simp] theorem x_sSeq (f h : Sx) : sSeq f h ρ = (f ρ >>= fun r => match r with
  | .next ρ' => h ρ'
  | .ret s ρ' => .ok (.ret s ρ')
  | .brk ρ' => .ok (.brk ρ')
  | .cnt ρ' => .ok (.cnt ρ')) := (rfl)
@[simp] theorem x_sNil : sNil ρ = .ok (.next ρ) := (rfl)
@[simp] theorem x_sBrk : sBrk ρ = .ok (.brk ρ) := (rfl)
@[simp] theorem x_sCnt : sCnt ρ = .ok (.cnt ρ) := (rfl)
@[simp] theorem x_sEx (f : Ex) : sEx f ρ = (f ρ >>= fun p => .ok (.next p.2)) := (rfl)
@[simp] theorem x_mvv (d : D) : mv l (.v d) ρ = .ok (.v d, ρ) := (rfl)
@[simp] theorem x_mvo (d : D) : mv l (.o d) ρ = .ok (.o d, ρ) := (rfl)
@[simp] theorem x_mvb (i : Nat) : mv l (.b i) ρ = (if i ∈ l then .stuck else match ρ[i]? with
    | some (some (.o d)) => .ok (.o d, ρ)
    | some (some (.v d)) => .ok (.v d, ρ)
    | _ => .stuck) := (rfl)
@[simp] theorem x_sRet (f : Ex) : sRet l f ρ = (f ρ >>= fun p => mv l p.1 p.2 >>= fun r => .ok (.ret r.1 r.2)) := (rfl)
@[simp] theorem x_sRetN : sRetN ρ = .ok (.ret (.v .non) ρ) := (rfl)
@[simp] theorem x_bdv (d : D) : bd l (.v d) ρ = .ok (.v d, ρ) := (rfl)
@[simp] theorem x_bdo (d : D) : bd l (.o d) ρ = .ok (.o d, ρ) := (rfl)
@[simp] theorem x_bdb (i : Nat) : bd l (.b i) ρ = (fz l (.b i) ρ >>= fun p => .ok (.v p.1, p.2)) := (rfl)
@[simp] theorem x_sSet (i : Nat) (f : Ex) : sSet l i f ρ = (f ρ >>= fun p => bd l p.1 p.2 >>= fun p => if i ∈ l then .stuck else .ok (.next (p.2.set i (some p.1)))) := by
  unfold sSet eBd
  cases f ρ <;> rfl
@[simp] theorem x_gNm (i : Nat) (d : D) : gNm l i d ρ = (if i ∈ l then none else some (ρ.set i (some (.v d)))) := (rfl)
@[simp] theorem x_gsNil : gsNil [] ρ = some ρ := (rfl)
@[simp] theorem x_gsCons (f : Gx) (r : Gxs) (d : D) (ds : List D) : gsCons f r (d :: ds) ρ = (f d ρ).bind fun ρ' => r ds ρ' := (rfl)
@[simp] theorem x_gTp1 (n : Nat) (r : Gxs) (ds : List D) : gTp n r (.tup ds) ρ = (if ds.length = n then r ds ρ else none) := (rfl)
@[simp] theorem x_gTp2 (n : Nat) (r : Gxs) (ds : List D) : gTp n r (.lst ds) ρ = (if ds.length = n then r ds ρ else none) := (rfl)
@[simp] theorem x_sAsg (f : Ex) (t : Gx) : sAsg l f t ρ = (f ρ >>= fun p => fz l p.1 p.2 >>= fun p => liftO (t p.1 p.2) >>= fun ρ' => .ok (.next ρ')) := by
  unfold sAsg eF
  cases f ρ <;> rfl
@[simp] theorem x_sIf (t : Tx) (f h : Sx) : sIf t f h ρ = (t ρ >>= fun p => if p.1 = true then f p.2 else h p.2) := (rfl)
@[simp] theorem x_sFor (i : Ix) (t : Gx) (f : Sx) : sFor i t f ρ = (i ρ >>= fun p => lp t f p.1 p.2) := (rfl)
@[simp] theorem x_lp0 (t : Gx) (f : Sx) : lp t f [] ρ = .ok (.next ρ) := (rfl)
theorem x_lp1 (t : Gx) (f : Sx) (d : D) (ds : List D) : lp t f (d :: ds) ρ = (liftO (t d ρ) >>= fun ρ1 => f ρ1 >>= aft (lp t f ds)) := (rfl)
@[simp] theorem x_aft1 (k : Sx) : aft k (.next ρ) = k ρ := (rfl)
@[simp] theorem x_aft2 (k : Sx) : aft k (.cnt ρ) = k ρ := (rfl)
@[simp] theorem x_aft3 (k : Sx) : aft k (.brk ρ) = .ok (.next ρ) := (rfl)
@[simp] theorem x_aft4 (k : Sx) (s : S) : aft k (.ret s ρ) = .ok (.ret s ρ) := (rfl)
@[simp] theorem x_iVal (f : Ex) : iVal l f ρ = (f ρ >>= fun p => fz l p.1 p.2 >>= fun p => liftO (dIter p.1) >>= fun ds => .ok (ds, p.2)) := by
  unfold iVal eF
  cases f ρ <;> rfl
@[simp] theorem x_iRg1 (fa : Ax) : iRg1 fa ρ = (fa ρ >>= fun p => pkL p.2 p.1 >>= fun ds => liftO (int1 ds) >>= fun j => .ok (rgD 0 j.toNat, p.2)) := (rfl)
@[simp] theorem x_iRg2 (fa : Ax) : iRg2 fa ρ = (fa ρ >>= fun p => pkL p.2 p.1 >>= fun ds => liftO (int2 ds) >>= fun j => .ok (rgD j.1 (j.2 - j.1).toNat, p.2)) := (rfl)
@[simp] theorem x_iEn (f : Ex) : iEn l f ρ = (f ρ >>= fun p => fz l p.1 p.2 >>= fun p => liftO (dSeq p.1) >>= fun ds => .ok (enD 0 ds, p.2)) := by
  unfold iEn eF
  cases f ρ <;> rfl
@[simp] theorem x_iZp (fa : Ax) : iZp l fa ρ = (aF l fa ρ >>= fun p => liftO (zip2 p.1) >>= fun ds => .ok (ds, p.2)) := (rfl)
@[simp] theorem x_sRaise (c : Str) : sRaise c ρ = .exc c ρ := (rfl)
@[simp] theorem x_eMl (i : Nat) (od : List D → List D → Option (D × List D)) (fa : Ax) : eMl l i od fa ρ = (match ownD ρ i with
  | some (.lst _) => aF l fa ρ >>= fun p => (match ownD p.2 i with
    | some (.lst ls) => liftO (od ls p.1) >>= fun q => .ok (.v q.1, putO p.2 i (.lst q.2))
    | _ => .stuck)
  | _ => .stuck) := (rfl)
@[simp] theorem x_ownD (i : Nat) : ownD ρ i = (match ρ[i]? with
  | some (some (.o d)) => some d
  | _ => none) := (rfl)
@[simp] theorem x_putO (i : Nat) (d : D) : putO ρ i d = ρ.set i (some (.o d)) := (rfl)
@[simp] theorem x_valD (i : Nat) : valD ρ i = (match ρ[i]? with
  | some (some (.v d)) => some d
  | _ => none) := (rfl)
@[simp] theorem x_sAug (i : Nat) (od : D → D → Option S) (f : Ex) : sAug l i od f ρ = (liftO (valD ρ i) >>= fun d1 => f ρ >>= fun p => PL.pk p.2 p.1 >>= fun d2 => liftO (od d1 d2) >>= fun s => if i ∈ l then .stuck else .ok (.next (p.2.set i (some s)))) := (rfl)
@[simp] theorem x_gSb (i : Nat) (fi : Ex) (v : D) : gSb i fi v ρ = (match ownD ρ i, fi ρ with
  | some _, .ok (s, ρ1) => (match PL.pk ρ1 s, ownD ρ1 i with
    | .ok k, some d => (dSet d k v).map fun d' => putO ρ1 i d'
    | _, _ => none)
  | _, _ => none) := (rfl)
/-! values -/
@[simp] theorem x_lt (i j : Int) : dLt (.int i) (.int j) = some (decide (i < j)) := (rfl)
@[simp] theorem x_le (i j : Int) : dLe (.int i) (.int j) = some (decide (i ≤ j)) := (rfl)
@[simp] theorem x_gt (i j : Int) : dGt (.int i) (.int j) = some (decide (j < i)) := (rfl)
@[simp] theorem x_ge (i j : Int) : dGe (.int i) (.int j) = some (decide (j ≤ i)) := (rfl)
@[simp] theorem x_add (i j : Int) : dAdd (.int i) (.int j) = some (.v (.int (i + j))) := (rfl)
@[simp] theorem x_addT (a b : List D) : dAdd (.tup a) (.tup b) = if a.length + b.length ≤ 16777216 then some (.v (.tup (a ++ b))) else none := (rfl)
@[simp] theorem x_sub (i j : Int) : dSub (.int i) (.int j) = some (.v (.int (i - j))) := (rfl)
@[simp] theorem x_mul (i j : Int) : dMul (.int i) (.int j) = if mulOk i j then some (.v (.int (i * j))) else none := (rfl)
theorem mulOk_l {a b : Int} (h : a.natAbs < 18446744073709551616) : mulOk a b := .inl h
theorem mulOk_r {a b : Int} (h : b.natAbs < 18446744073709551616) : mulOk a b := .inr (.inl h)
@[simp] theorem x_mod (i j : Int) : dMod (.int i) (.int j) = if 0 < j then some (.v (.int (i % j))) else if j ≠ 0 then some (.v (.int (i.fmod j))) else none := (rfl)
@[simp] theorem x_div (a b : Int) : dDiv (.int a) (.int b) = if 0 < b ∧ b.natAbs.log2 < 9000 then some (.v (.int (a / b))) else if b ≠ 0 ∧ b.natAbs < 1073741824 then some (.v (.int (a.fdiv b))) else none := (rfl)
@[simp] theorem x_neg (i : Int) : dNeg (.int i) = some (.v (.int (-i))) := (rfl)
@[simp] theorem x_isN (d : D) : dIs d .non = some (dIsNon d) := (rfl)
@[simp] theorem x_isB (d : D) (k : Bool) : dIs d (.bl k) = some (dIsBl k d) := (rfl)
@[simp] theorem x_isnN (d : D) : dIsNot d .non = some (!dIsNon d) := (rfl)
@[simp] theorem x_isnB (d : D) (k : Bool) : dIsNot d (.bl k) = some (!dIsBl k d) := (rfl)
@[simp] theorem x_isNon1 : dIsNon .non = true := (rfl)
@[simp] theorem x_isNon2 (b : Bool) : dIsNon (.bl b) = false := (rfl)
@[simp] theorem x_isNon3 (b : Int) : dIsNon (.int b) = false := (rfl)
@[simp] theorem x_isNon4 (b : Str) : dIsNon (.str b) = false := (rfl)
@[simp] theorem x_isNon5 (b : List D) : dIsNon (.tup b) = false := (rfl)
@[simp] theorem x_isNon6 (b : List D) : dIsNon (.lst b) = false := (rfl)
@[simp] theorem x_isBl1 (k : Bool) : dIsBl k .non = false := (rfl)
@[simp] theorem x_isBl2 (k b : Bool) : dIsBl k (.bl b) = (b == k) := (rfl)
@[simp] theorem x_isBl3 (k : Bool) (b : Int) : dIsBl k (.int b) = false := (rfl)
@[simp] theorem x_isBl4 (k : Bool) (b : Str) : dIsBl k (.str b) = false := (rfl)
@[simp] theorem x_isBl5 (k : Bool) (b : List D) : dIsBl k (.tup b) = false := (rfl)
@[simp] theorem x_isBl6 (k : Bool) (b : List D) : dIsBl k (.lst b) = false := (rfl)
@[simp] theorem x_truB (b : Bool) : dTru (.bl b) = some b := (rfl)
@[simp] theorem x_int1 (i : Int) : dInt1 [.int i] = some (.v (.int i)) := (rfl)
@[simp] theorem x_int1b (k : Bool) : dInt1 [.bl k] = some (.v (.int (if k then 1 else 0))) := (rfl)
@[simp] theorem x_abs (i : Int) : dAbs [.int i] = some (.v (.int (if i < 0 then -i else i))) := (rfl)
@[simp] theorem x_lenT (ds : List D) : dLen [.tup ds] = some (.v (.int ds.length)) := (rfl)
@[simp] theorem x_lenL (ds : List D) : dLen [.lst ds] = some (.v (.int ds.length)) := (rfl)
@[simp] theorem x_lenS (ds : List Int) : dLen [.scr ds] = some (.v (.int ds.length)) := (rfl)
@[simp] theorem x_tupT (ds : List D) : dTup1 [.tup ds] = some (.v (.tup ds)) := (rfl)
@[simp] theorem x_tupL (ds : List D) : dTup1 [.lst ds] = some (.v (.tup ds)) := (rfl)
@[simp] theorem x_lstT (ds : List D) : dLst1 [.tup ds] = some (.o (.lst ds)) := (rfl)
@[simp] theorem x_lstL (ds : List D) : dLst1 [.lst ds] = some (.o (.lst ds)) := (rfl)
@[simp] theorem x_itT (ds : List D) : dIter (.tup ds) = some ds := (rfl)
@[simp] theorem x_itL (ds : List D) : dIter (.lst ds) = some ds := (rfl)
@[simp] theorem x_itS (ns : List Int) : dIter (.scr ns) = some (ns.map .int) := (rfl)
@[simp] theorem x_seqT (ds : List D) : dSeq (.tup ds) = some ds := (rfl)
@[simp] theorem x_seqL (ds : List D) : dSeq (.lst ds) = some ds := (rfl)
@[simp] theorem x_slT (ds : List D) (lo hi : Option Int) : dSl (.tup ds) lo hi = some (.v (.tup (cutG ds lo hi))) := (rfl)
@[simp] theorem x_slL (ds : List D) (lo hi : Option Int) : dSl (.lst ds) lo hi = some (.o (.lst (cutG ds lo hi))) := (rfl)
@[simp] theorem x_slS (ns : List Int) (lo hi : Option Int) : dSl (.scr ns) lo hi = some (.o (.lst ((cutG ns lo hi).map .int))) := (rfl)
@[simp] theorem x_ixT (ds : List D) (i : Int) : dIx (.tup ds) (.int i) = (atI ds i).map .v := (rfl)
@[simp] theorem x_ixL (ds : List D) (i : Int) : dIx (.lst ds) (.int i) = (atI ds i).map .v := (rfl)
@[simp] theorem x_append (ls : List D) (d : D) : mAppend ls [d] = if ls.length < 16777216 then some (.non, ls ++ [d]) else none := (rfl)
@[simp] theorem x_isT_int_non  : isT .int .non = some false := (rfl)
@[simp] theorem x_isT_int_bl (x : Bool) : isT .int (.bl x) = some true := (rfl)
@[simp] theorem x_isT_int_int (x : Int) : isT .int (.int x) = some true := (rfl)
@[simp] theorem x_isT_int_str (x : Str) : isT .int (.str x) = some false := (rfl)
@[simp] theorem x_isT_int_tup (x : List D) : isT .int (.tup x) = some false := (rfl)
@[simp] theorem x_isT_int_lst (x : List D) : isT .int (.lst x) = some false := (rfl)
@[simp] theorem x_isT_int_scr (x : List Int) : isT .int (.scr x) = some false := (rfl)
@[simp] theorem x_isT_bool_non  : isT .bool .non = some false := (rfl)
@[simp] theorem x_isT_bool_bl (x : Bool) : isT .bool (.bl x) = some true := (rfl)
@[simp] theorem x_isT_bool_int (x : Int) : isT .bool (.int x) = some false := (rfl)
@[simp] theorem x_isT_bool_str (x : Str) : isT .bool (.str x) = some false := (rfl)
@[simp] theorem x_isT_bool_tup (x : List D) : isT .bool (.tup x) = some false := (rfl)
@[simp] theorem x_isT_bool_lst (x : List D) : isT .bool (.lst x) = some false := (rfl)
@[simp] theorem x_isT_bool_scr (x : List Int) : isT .bool (.scr x) = some false := (rfl)
@[simp] theorem x_isT_str_non  : isT .str .non = some false := (rfl)
@[simp] theorem x_isT_str_bl (x : Bool) : isT .str (.bl x) = some false := (rfl)
@[simp] theorem x_isT_str_int (x : Int) : isT .str (.int x) = some false := (rfl)
@[simp] theorem x_isT_str_str (x : Str) : isT .str (.str x) = some true := (rfl)
@[simp] theorem x_isT_str_tup (x : List D) : isT .str (.tup x) = some false := (rfl)
@[simp] theorem x_isT_str_lst (x : List D) : isT .str (.lst x) = some false := (rfl)
@[simp] theorem x_isT_str_scr (x : List Int) : isT .str (.scr x) = some false := (rfl)
@[simp] theorem x_isT_tuple_non  : isT .tuple .non = some false := (rfl)
@[simp] theorem x_isT_tuple_bl (x : Bool) : isT .tuple (.bl x) = some false := (rfl)
@[simp] theorem x_isT_tuple_int (x : Int) : isT .tuple (.int x) = some false := (rfl)
@[simp] theorem x_isT_tuple_str (x : Str) : isT .tuple (.str x) = some false := (rfl)
@[simp] theorem x_isT_tuple_tup (x : List D) : isT .tuple (.tup x) = some true := (rfl)
@[simp] theorem x_isT_tuple_lst (x : List D) : isT .tuple (.lst x) = some false := (rfl)
@[simp] theorem x_isT_tuple_scr (x : List Int) : isT .tuple (.scr x) = some false := (rfl)
@[simp] theorem x_isT_list_non  : isT .list .non = some false := (rfl)
@[simp] theorem x_isT_list_bl (x : Bool) : isT .list (.bl x) = some false := (rfl)
@[simp] theorem x_isT_list_int (x : Int) : isT .list (.int x) = some false := (rfl)
@[simp] theorem x_isT_list_str (x : Str) : isT .list (.str x) = some false := (rfl)
@[simp] theorem x_isT_list_tup (x : List D) : isT .list (.tup x) = some false := (rfl)
@[simp] theorem x_isT_list_lst (x : List D) : isT .list (.lst x) = some true := (rfl)
@[simp] theorem x_isT_list_scr (x : List Int) : isT .list (.scr x) = some true := (rfl)
@[simp] theorem x_isT_dict_non  : isT .dict .non = some false := (rfl)
@[simp] theorem x_isT_dict_bl (x : Bool) : isT .dict (.bl x) = some false := (rfl)
@[simp] theorem x_isT_dict_int (x : Int) : isT .dict (.int x) = some false := (rfl)
@[simp] theorem x_isT_dict_str (x : Str) : isT .dict (.str x) = some false := (rfl)
@[simp] theorem x_isT_dict_tup (x : List D) : isT .dict (.tup x) = some false := (rfl)
@[simp] theorem x_isT_dict_lst (x : List D) : isT .dict (.lst x) = some false := (rfl)
@[simp] theorem x_isT_dict_scr (x : List Int) : isT .dict (.scr x) = some false := (rfl)
theorem x_eq_int (i j : Int) : eqD (.int i) (.int j) = decide (i = j) := by
  show (i == j) = decide (i = j)
  by_cases h : i = j <;> simp [h]
@[simp] theorem x_dEq_int (i j : Int) : dEq (.int i) (.int j) = some (decide (i = j)) := by
  unfold dEq
  rw [if_pos (show flatX (.int i) (.int j) = true from rfl), x_eq_int]
theorem x_eq_str (i j : Str) : eqD (.str i) (.str j) = decide (i = j) := by
  show (i == j) = decide (i = j)
  by_cases h : i = j <;> simp [h]
@[simp] theorem x_dEq_str (i j : Str) : dEq (.str i) (.str j) = some (decide (i = j)) := by
  unfold dEq
  rw [if_pos (show flatX (.str i) (.str j) = true from rfl), x_eq_str]
@[simp] theorem x_dNe (d e : D) : dNe d e = (dEq d e).map (!·) := (rfl)
/-! loops -/
/-- a loop none of whose turns leaves it: I by the items done -/
theorem lp_next {t : Gx} {f : Sx} (I : List D → Rho → Prop) : ∀ (rest done : List D) (ρ : Rho), I done ρ → (∀ dn d r ρ, done ++ rest = dn ++ d :: r → I dn ρ → ∃ ρ1, t d ρ = some ρ1 ∧ ∃ ρ', (f ρ1 = .ok (.next ρ') ∨ f ρ1 = .ok (.cnt ρ')) ∧ I (dn ++ [d]) ρ') →
    ∃ ρ', lp t f rest ρ = .ok (.next ρ') ∧ I (done ++ rest) ρ'
  | [], done, ρ, h, _ => ⟨ρ, rfl, by rw [List.append_nil]; exact h⟩
  | d :: rest, done, ρ, h, hs => by
    obtain ⟨ρ1, h1, ρ', h2, h3⟩ := hs done d rest ρ rfl h
    obtain ⟨ρ2, h4, h5⟩ := lp_next I rest (done ++ [d]) ρ' h3 fun dn d' r ρ e => hs dn d' r ρ (by rw [← e, List.append_assoc]; rfl)
    refine ⟨ρ2, ?_, by rw [List.append_assoc] at h5; exact h5⟩
    rw [x_lp1, h1]
    rcases h2 with h2 | h2
    · rw [liftO_some, bind_ok, h2, bind_ok, x_aft1, h4]
    · rw [liftO_some, bind_ok, h2, bind_ok, x_aft2, h4]
/-- a loop that goes on while p holds, and else hands back z -/
theorem lp_all {t : Gx} {f : Sx} (I : Rho → Prop) (p : D → Bool) (z : D) : ∀ (ds : List D) (ρ : Rho), I ρ → (∀ d ρ, d ∈ ds → I ρ → ∃ ρ1, t d ρ = some ρ1 ∧ ∃ ρ', f ρ1 = (if p d = true then .ok (.next ρ') else .ok (.ret (.v z) ρ')) ∧ I ρ') →
    ∃ ρ', lp t f ds ρ = (if ds.all p = true then .ok (.next ρ') else .ok (.ret (.v z) ρ')) ∧ I ρ'
  | [], ρ, h, _ => ⟨ρ, rfl, h⟩
  | d :: ds, ρ, h, hs => by
    obtain ⟨ρ1, h1, ρ', h2, h3⟩ := hs d ρ List.mem_cons_self h
    rw [x_lp1, h1]
    simp only [liftO_some, bind_ok, h2, List.all_cons]
    by_cases hp : p d = true
    · obtain ⟨ρ2, h4, h5⟩ := lp_all I p z ds ρ' h3 fun d' ρ hd => hs d' ρ (List.mem_cons_of_mem _ hd)
      refine ⟨ρ2, ?_, h5⟩
      rw [if_pos hp, bind_ok, x_aft1, h4]
      simp [hp]
    · refine ⟨ρ', ?_, h3⟩
      rw [if_neg hp, bind_ok, x_aft4]
      simp [hp]
end
/-! comprehensions -/
@[simp] theorem x_tsNo (ρ : Rho) : tsNo ρ = .ok (true, ρ) := (rfl)
@[simp] theorem x_nox {α : Type} (a : α) : nox (.ok a) = .ok a := (rfl)
theorem x_eLc (l vs : List Nat) (fi : Ix) (ft : Gx) (tt : Tx) (fe : Ex) (ρ : Rho) : eLc l vs fi ft tt fe ρ = (fi ρ >>= fun p => if (∀ i ∈ vs, i ∉ l) then nox (lcLp l vs ft tt fe p.1 (wipeE p.2 vs) []) >>= fun q => .ok (.o (.lst q.1), unwipe vs p.2 q.2) else .stuck) := (rfl)
/-- a comprehension whose turns leave the state as it was -/
theorem lc_eq {l vs : List Nat} {ft : Gx} {tt : Tx} {fe : Ex} {ρ0 : Rho} (c : D → Bool) (h : D → D) : ∀ (ds acc : List D), acc.length + ds.length ≤ 16777216 →
    (∀ d, d ∈ ds → ∃ ρ1 ρ2, ft d ρ0 = some ρ1 ∧ tt ρ1 = .ok (c d, ρ2) ∧ (if c d = true then ∃ ρ3, eF l fe ρ2 = .ok (h d, ρ3) ∧ wipeE ρ3 vs = ρ0 else wipeE ρ2 vs = ρ0)) →
    lcLp l vs ft tt fe ds ρ0 acc = .ok (acc ++ (ds.filter c).map h, ρ0)
  | [], acc, _, _ => by simp [lcLp]
  | d :: ds, acc, hl, hs => by
    obtain ⟨ρ1, ρ2, h1, h2, h3⟩ := hs d List.mem_cons_self
    have ih := fun acc' hl' => lc_eq (l := l) (vs := vs) (ft := ft) (tt := tt) (fe := fe) (ρ0 := ρ0) c h ds acc' hl' fun d' hd => hs d' (List.mem_cons_of_mem _ hd)
    rw [List.length_cons] at hl
    rw [lcLp, h1, liftO_some, bind_ok, h2, bind_ok]
    by_cases hc : c d = true
    · rw [if_pos hc] at h3
      obtain ⟨ρ3, h4, h5⟩ := h3
      rw [if_pos hc, h4, bind_ok, if_pos (by omega), h5, ih (acc ++ [h d]) (by rw [List.length_append, List.length_singleton]; omega)]
      rw [List.filter_cons_of_pos hc, List.map_cons, List.append_assoc]
      rfl
    · rw [if_neg hc] at h3
      rw [if_neg hc, h3, ih acc (by omega), List.filter_cons_of_neg hc]
theorem lc_map {l vs : List Nat} {ft : Gx} {fe : Ex} {ρ0 : Rho} (h : D → D) (ds : List D) (hl : ds.length ≤ 16777216)
    (hs : ∀ d, d ∈ ds → ∃ ρ1 ρ3, ft d ρ0 = some ρ1 ∧ eF l fe ρ1 = .ok (h d, ρ3) ∧ wipeE ρ3 vs = ρ0) : lcLp l vs ft tsNo fe ds ρ0 [] = .ok (ds.map h, ρ0) := by
  rw [lc_eq (fun _ => true) h ds [] (by simpa using hl) fun d hd => ?_]
  · rw [List.filter_eq_self.mpr (fun _ _ => rfl)]
    rfl
  · obtain ⟨ρ1, ρ3, h1, h2, h3⟩ := hs d hd
    exact ⟨ρ1, ρ1, h1, rfl, by rw [if_pos rfl]; exact ⟨ρ3, h2, h3⟩⟩
theorem x_bls : ∀ bs : List Bool, blsD (bs.map .bl) = some bs
  | [] => rfl
  | b :: bs => by rw [List.map_cons, blsD, x_bls bs]; rfl
theorem x_blsM {α : Type} (f : α → Bool) (xs : List α) : blsD (xs.map fun x => .bl (f x)) = some (xs.map f) := by
  rw [← x_bls (xs.map f), List.map_map]
  rfl
theorem x_ints : ∀ ns : List Int, intsD (ns.map .int) = some ns
  | [] => rfl
  | b :: bs => by rw [List.map_cons, intsD, x_ints bs]; rfl
@[simp] theorem x_wipe0 (ρ : Rho) : wipeE ρ [] = ρ := (rfl)
@[simp] theorem x_wipe1 (ρ : Rho) (v : Nat) (vs : List Nat) : wipeE ρ (v :: vs) = (wipeE ρ vs).set v none := (rfl)
@[simp] theorem x_unwipe0 (ρ ρ' : Rho) : unwipe [] ρ ρ' = ρ' := (rfl)
@[simp] theorem x_unwipe1 (ρ ρ' : Rho) (v : Nat) (vs : List Nat) : unwipe (v :: vs) ρ ρ' = (unwipe vs ρ ρ').set v (match ρ[v]? with
    | some (some (.v d)) => some (.v d)
    | _ => none) := (rfl)
@[simp] theorem x_allL (ds : List D) : dAll [.lst ds] = (blsD ds).map fun bs => .v (.bl (bs.all id)) := (rfl)
@[simp] theorem x_anyL (ds : List D) : dAny [.lst ds] = (blsD ds).map fun bs => .v (.bl (bs.any id)) := (rfl)
@[simp] theorem x_sumL (ds : List D) : dSum [.lst ds] = (intsD ds).map fun ns => .v (.int ns.sum) := (rfl)
/-! try -/
theorem x_sTry (need : Nat) (tab : List (Str × Bool)) (h : Hx) (f : Sx) (ρ : Rho) : sTry need tab h f ρ = (match f ρ with
  | .ok r => .ok r
  | .stuck => .stuck
  | .exc c ρ' => match look tab c with
    | some true => (match h c with
      | some d => if need ≤ ρ'.length then .ok (.ret (.v d) ρ') else .stuck
      | none => .stuck)
    | some false => .exc c ρ'
    | none => .stuck) := (rfl)
@[simp] theorem x_hC (d : D) (c : Str) : hC d c = some d := (rfl)
@[simp] theorem x_hIs (tab : List (Str × Bool)) (c : Str) : hIs tab c = (look tab c).map .bl := (rfl)
@[simp] theorem x_hAnd (h1 h2 : Hx) (c : Str) : hAnd h1 h2 c = (match h1 c with
  | some (.bl true) => h2 c
  | some (.bl false) => some (.bl false)
  | _ => none) := (rfl)
@[simp] theorem x_hNot (h1 : Hx) (c : Str) : hNot h1 c = (match h1 c with
  | some (.bl k) => some (.bl (!k))
  | _ => none) := (rfl)
/-! places -/
theorem atI_ofNat {α : Type} (xs : List α) (k : Nat) (x : α) (h : xs[k]? = some x) : L2.atI xs (k : Int) = some x := L2.atI_nat h
theorem atI_pos {α : Type} {xs : List α} {i : Int} (h0 : 0 ≤ i) : L2.atI xs i = xs[i.toNat]? := by
  unfold L2.atI L2.ixN
  rw [if_pos h0]
  split
  · rfl
  · rw [List.getElem?_eq_none (by omega)]; rfl
/-! values of the same shape -/
def dep : D → Nat := fun d => PyData.depth (toPy d)
/-! loops over a mapped list -/
theorem lp_foldM {α β : Type} {t : Gx} {f : Sx} {h : β → D} (st : α → Rho → Prop) (g : α → β → α) : ∀ (xs : List β) (a : α) (ρ : Rho), st a ρ →
    (∀ a x ρ, x ∈ xs → st a ρ → ∃ ρ1, t (h x) ρ = some ρ1 ∧ ∃ ρ', f ρ1 = .ok (.next ρ') ∧ st (g a x) ρ') → ∃ ρ', lp t f (xs.map h) ρ = .ok (.next ρ') ∧ st (xs.foldl g a) ρ'
  | [], a, ρ, h0, _ => ⟨ρ, rfl, h0⟩
  | x :: xs, a, ρ, h0, hs => by
    obtain ⟨ρ1, h1, ρ', h2, h3⟩ := hs a x ρ List.mem_cons_self h0
    obtain ⟨ρ2, h4, h5⟩ := lp_foldM (t := t) (f := f) (h := h) st g xs (g a x) ρ' h3 fun a y ρ hy => hs a y ρ (List.mem_cons_of_mem _ hy)
    refine ⟨ρ2, ?_, h5⟩
    rw [List.map_cons, x_lp1, h1, liftO_some, bind_ok, h2, bind_ok, x_aft1, h4]
theorem lp_invM {β : Type} {t : Gx} {f : Sx} {h : β → D} (I : Rho → Prop) (xs : List β) (ρ : Rho) (h0 : I ρ)
    (hs : ∀ x ρ, x ∈ xs → I ρ → ∃ ρ1, t (h x) ρ = some ρ1 ∧ ∃ ρ', f ρ1 = .ok (.next ρ') ∧ I ρ') : ∃ ρ', lp t f (xs.map h) ρ = .ok (.next ρ') ∧ I ρ' :=
  lp_foldM (fun (_ : Unit) ρ => I ρ) (fun _ _ => ()) xs () ρ h0 fun _ x ρ hx hi => hs x ρ hx hi
theorem lp_inv {t : Gx} {f : Sx} (I : Rho → Prop) (ds : List D) (ρ : Rho) (h0 : I ρ)
    (hs : ∀ x ρ, x ∈ ds → I ρ → ∃ ρ1, t x ρ = some ρ1 ∧ ∃ ρ', f ρ1 = .ok (.next ρ') ∧ I ρ') : ∃ ρ', lp t f ds ρ = .ok (.next ρ') ∧ I ρ' := by
  have := lp_invM (t := t) (f := f) (h := id) I ds ρ h0 hs
  rwa [List.map_id] at this
/-- by the turn: a is what stands behind i turns -/
theorem lp_numM {β : Type} {t : Gx} {f : Sx} {h : β → D} (xs : List β) (I : Nat → Rho → Prop) (ρ : Rho) (h0 : I 0 ρ)
    (hs : ∀ i x ρ, xs[i]? = some x → I i ρ → ∃ ρ1, t (h x) ρ = some ρ1 ∧ ∃ ρ', f ρ1 = .ok (.next ρ') ∧ I (i + 1) ρ') : ∃ ρ', lp t f (xs.map h) ρ = .ok (.next ρ') ∧ I xs.length ρ' := by
  have aux : ∀ (ys : List β) (k : Nat) (ρ : Rho), xs.drop k = ys → I k ρ → ∃ ρ', lp t f (ys.map h) ρ = .ok (.next ρ') ∧ I (k + ys.length) ρ' := fun ys => by
    induction ys with
    | nil => exact fun k ρ _ hk => ⟨ρ, rfl, hk⟩
    | cons y ys ih =>
      intro k ρ e hk
      have hy : xs[k]? = some y := by
        have := congrArg (fun l => l[0]?) e
        simpa using this
      obtain ⟨ρ1, h1, ρ', h2, h3⟩ := hs k y ρ hy hk
      obtain ⟨ρ2, h4, h5⟩ := ih (k + 1) ρ' (by rw [← List.drop_drop, e]; rfl) h3
      refine ⟨ρ2, ?_, by rw [List.length_cons, Nat.add_comm ys.length 1, ← Nat.add_assoc]; exact h5⟩
      rw [List.map_cons, x_lp1, h1, liftO_some, bind_ok, h2, bind_ok, x_aft1, h4]
  have := aux xs 0 ρ rfl h0
  rwa [Nat.zero_add] at this
theorem lp_allM {β : Type} {t : Gx} {f : Sx} {h : β → D} (I : Rho → Prop) (p : β → Bool) (z : D) : ∀ (xs : List β) (ρ : Rho), I ρ → (∀ x ρ, x ∈ xs → I ρ → ∃ ρ1, t (h x) ρ = some ρ1 ∧ ∃ ρ', f ρ1 = (if p x = true then .ok (.next ρ') else .ok (.ret (.v z) ρ')) ∧ I ρ') →
    ∃ ρ', lp t f (xs.map h) ρ = (if xs.all p = true then .ok (.next ρ') else .ok (.ret (.v z) ρ')) ∧ I ρ'
  | [], ρ, h0, _ => ⟨ρ, rfl, h0⟩
  | d :: ds, ρ, h0, hs => by
    obtain ⟨ρ1, h1, ρ', h2, h3⟩ := hs d ρ List.mem_cons_self h0
    rw [List.map_cons, x_lp1, h1]
    simp only [liftO_some, bind_ok, h2, List.all_cons]
    by_cases hp : p d = true
    · obtain ⟨ρ2, h4, h5⟩ := lp_allM (t := t) (f := f) (h := h) I p z ds ρ' h3 fun d' ρ hd => hs d' ρ (List.mem_cons_of_mem _ hd)
      refine ⟨ρ2, ?_, h5⟩
      rw [if_pos hp, bind_ok, x_aft1, h4]
      simp [hp]
    · refine ⟨ρ', ?_, h3⟩
      rw [if_neg hp, bind_ok, x_aft4]
      simp [hp]
/-- the reckoning raises c -/
def isX {α : Type} (r : Out α) (c : Str) : Prop := match r with
  | .exc c' _ => c' = c
  | _ => False
@[simp] theorem x_isX {α : Type} (c c' : Str) (ρ : Rho) : isX (Out.exc c ρ : Out α) c' = (c = c') := (rfl)
theorem isX_is {α : Type} {r : Out α} {c : Str} (h : isX r c) : ∃ ρ, r = .exc c ρ := by
  cases r with
  | ok a => exact h.elim
  | stuck => exact h.elim
  | exc c' ρ => cases (show c' = c from h); exact ⟨ρ, rfl⟩
theorem x_int2 (i j : Int) (h : -4611686018427387904 ≤ i ∧ i < 4611686018427387904 ∧ -4611686018427387904 ≤ j ∧ j < 4611686018427387904) : int2 [.int i, .int j] = some (i, j) := by
  unfold int2
  exact if_pos h
theorem x_int1' (j : Int) (h : -4611686018427387904 ≤ j ∧ j < 4611686018427387904) : PL.int1 [.int j] = some j := by
  unfold PL.int1
  exact if_pos h
/-- a loop that appends -/
theorem lp_acc {β : Type} {t : Gx} {f : Sx} {h : β → D} (St : List D → Rho → Prop) (p : β → Bool) (k : β → D) (N : Nat) : ∀ (xs : List β) (acc : List D) (ρ : Rho), acc.length + xs.length ≤ N → St acc ρ →
    (∀ x acc ρ, x ∈ xs → acc.length < N → St acc ρ → ∃ ρ1, t (h x) ρ = some ρ1 ∧ ∃ ρ', f ρ1 = .ok (.next ρ') ∧ St (if p x = true then acc ++ [k x] else acc) ρ') → ∃ ρ', lp t f (xs.map h) ρ = .ok (.next ρ') ∧ St (acc ++ (xs.filter p).map k) ρ'
  | [], acc, ρ, _, h0, _ => ⟨ρ, rfl, by simpa using h0⟩
  | x :: xs, acc, ρ, hN, h0, hs => by
    rw [List.length_cons] at hN
    obtain ⟨ρ1, h1, ρ', h2, h3⟩ := hs x acc ρ List.mem_cons_self (by omega) h0
    have hl : (if p x = true then acc ++ [k x] else acc).length + xs.length ≤ N := by
      split
      · rw [List.length_append, List.length_singleton]; omega
      · omega
    obtain ⟨ρ2, h4, h5⟩ := lp_acc (t := t) (f := f) (h := h) St p k N xs _ ρ' hl h3 fun y acc ρ hy => hs y acc ρ (List.mem_cons_of_mem _ hy)
    refine ⟨ρ2, ?_, ?_⟩
    · rw [List.map_cons, x_lp1, h1, liftO_some, bind_ok, h2, bind_ok, x_aft1, h4]
    · by_cases hp : p x = true
      · rw [if_pos hp] at h5
        rw [List.filter_cons_of_pos hp, List.map_cons]
        rw [List.append_assoc] at h5
        exact h5
      · rw [if_neg hp] at h5
        rw [List.filter_cons_of_neg hp]
        exact h5
theorem rg_zip {β : Type} (xs : List β) : rgD 0 xs.length = xs.zipIdx.map fun p => .int ((p.2 : Nat) : Int) := by
  apply List.ext_getElem?
  intro i
  unfold rgD
  rw [List.getElem?_map, List.getElem?_map, List.getElem?_zipIdx]
  by_cases hi : i < xs.length
  · rw [List.getElem?_range hi, List.getElem?_eq_getElem hi]
    simp
  · rw [List.getElem?_eq_none (by simpa using hi), List.getElem?_eq_none (by simpa using hi)]
    rfl
theorem en_zip {β : Type} (h : β → D) (xs : List β) : enD 0 (xs.map h) = xs.zipIdx.map fun p => .tup [.int ((p.2 : Nat) : Int), h p.1] := by
  apply List.ext_getElem?
  intro i
  rw [enD_get, List.getElem?_map, List.getElem?_map, List.getElem?_zipIdx]
  cases xs[i]? <;> rfl
theorem mem_zip {β : Type} {xs : List β} {p : β × Nat} (h : p ∈ xs.zipIdx) : xs[p.2]? = some p.1 := by
  rw [List.mem_zipIdx_iff_getElem?] at h
  exact h
theorem lc_eqM {β : Type} {l vs : List Nat} {ft : Gx} {tt : Tx} {fe : Ex} {ρ0 : Rho} {h0 : β → D} (c : β → Bool) (k : β → D) : ∀ (xs : List β) (acc : List D), acc.length + xs.length ≤ 16777216 →
    (∀ x, x ∈ xs → ∃ ρ1 ρ2, ft (h0 x) ρ0 = some ρ1 ∧ tt ρ1 = .ok (c x, ρ2) ∧ (c x = true → ∃ ρ3, eF l fe ρ2 = .ok (k x, ρ3) ∧ wipeE ρ3 vs = ρ0) ∧ (c x = false → wipeE ρ2 vs = ρ0)) →
    lcLp l vs ft tt fe (xs.map h0) ρ0 acc = .ok (acc ++ (xs.filter c).map k, ρ0)
  | [], acc, _, _ => by simp [lcLp]
  | d :: ds, acc, hl, hs => by
    obtain ⟨ρ1, ρ2, h1, h2, h3, h3'⟩ := hs d List.mem_cons_self
    have ih := fun acc' hl' => lc_eqM (l := l) (vs := vs) (ft := ft) (tt := tt) (fe := fe) (ρ0 := ρ0) (h0 := h0) c k ds acc' hl' fun d' hd => hs d' (List.mem_cons_of_mem _ hd)
    rw [List.length_cons] at hl
    rw [List.map_cons, lcLp, h1, liftO_some, bind_ok, h2, bind_ok]
    by_cases hc : c d = true
    · obtain ⟨ρ3, h4, h5⟩ := h3 hc
      rw [if_pos hc, h4, bind_ok, if_pos (by omega), h5, ih (acc ++ [k d]) (by rw [List.length_append, List.length_singleton]; omega)]
      rw [List.filter_cons_of_pos hc, List.map_cons, List.append_assoc]
      rfl
    · rw [if_neg hc, h3' (by simpa using hc), ih acc (by omega), List.filter_cons_of_neg hc]
theorem lc_mapM {β : Type} {l vs : List Nat} {ft : Gx} {fe : Ex} {ρ0 : Rho} {h0 : β → D} (k : β → D) (xs : List β) (hl : xs.length ≤ 16777216)
    (hs : ∀ x, x ∈ xs → ∃ ρ1 ρ3, ft (h0 x) ρ0 = some ρ1 ∧ eF l fe ρ1 = .ok (k x, ρ3) ∧ wipeE ρ3 vs = ρ0) : lcLp l vs ft tsNo fe (xs.map h0) ρ0 [] = .ok (xs.map k, ρ0) := by
  rw [lc_eqM (fun _ => true) k xs [] (by simpa using hl) fun d hd => ?_]
  · rw [List.filter_eq_self.mpr (fun _ _ => rfl)]
    rfl
  · obtain ⟨ρ1, ρ3, h1, h2, h3⟩ := hs d hd
    exact ⟨ρ1, ρ1, h1, rfl, fun _ => ⟨ρ3, h2, h3⟩, fun z => by cases z⟩
@[simp] theorem x_mulT (a : List D) (k : Int) : dMul (.tup a) (.int k) = if 0 < a.length ∧ a.length ≤ 1000 ∧ 2 ≤ k ∧ k ≤ 1000 then some (.v (.tup (List.replicate k.toNat a).flatten)) else none := (rfl)
@[simp] theorem x_mulLs (a : List D) (k : Int) : dMul (.lst a) (.int k) = if a.length * k.toNat ≤ 16777216 ∧ -9223372036854775808 ≤ k ∧ k < 9223372036854775808 then some (.o (.lst (List.replicate k.toNat a).flatten)) else none := (rfl)
@[simp] theorem x_min2 (i j : Int) : dMin [.int i, .int j] = some (.v (.int (if j < i then j else i))) := (rfl)
@[simp] theorem x_max2 (i j : Int) : dMax [.int i, .int j] = some (.v (.int (if j > i then j else i))) := (rfl)
theorem x_mulL {a b : Int} (h : a.natAbs < 18446744073709551616) : dMul (.int a) (.int b) = some (.v (.int (a * b))) := by rw [x_mul, if_pos (mulOk_l h)]
theorem x_mulR {a b : Int} (h : b.natAbs < 18446744073709551616) : dMul (.int a) (.int b) = some (.v (.int (a * b))) := by rw [x_mul, if_pos (mulOk_r h)]
end PL

/-! the defs of kinds that many laws share -/
namespace Std
open PL PySem
def noD : D → Bool
  | .dic _ => false | .non => true | .bl _ => true | .int _ => true | .str _ => true | .tup _ => true | .lst _ => true | .scr _ => true
def isW : D → Bool
  | .int _ => true
  | _ => false
def isWin (lo hi : Int) : D → Bool
  | .int i => decide (lo ≤ i) && decide (i ≤ hi)
  | _ => false
def isTup (lo hi : Int) : D → Bool
  | .tup ds => decide (lo ≤ ds.length) && decide (ds.length ≤ hi)
  | _ => false
@[simp] theorem noD_non  : noD .non = true := (rfl)
@[simp] theorem isW_non  : isW .non = false := (rfl)
@[simp] theorem isWin_non (lo hi : Int)  : isWin lo hi .non = false := (rfl)
@[simp] theorem isTup_non (lo hi : Int)  : isTup lo hi .non = false := (rfl)
@[simp] theorem noD_bl (x : Bool) : noD (.bl x) = true := (rfl)
@[simp] theorem isW_bl (x : Bool) : isW (.bl x) = false := (rfl)
@[simp] theorem isWin_bl (lo hi : Int) (x : Bool) : isWin lo hi (.bl x) = false := (rfl)
@[simp] theorem isTup_bl (lo hi : Int) (x : Bool) : isTup lo hi (.bl x) = false := (rfl)
@[simp] theorem noD_int (x : Int) : noD (.int x) = true := (rfl)
@[simp] theorem isW_int (x : Int) : isW (.int x) = true := (rfl)
@[simp] theorem isWin_int (lo hi : Int) (x : Int) : isWin lo hi (.int x) = (decide (lo ≤ x) && decide (x ≤ hi)) := (rfl)
@[simp] theorem isTup_int (lo hi : Int) (x : Int) : isTup lo hi (.int x) = false := (rfl)
@[simp] theorem noD_str (x : Str) : noD (.str x) = true := (rfl)
@[simp] theorem isW_str (x : Str) : isW (.str x) = false := (rfl)
@[simp] theorem isWin_str (lo hi : Int) (x : Str) : isWin lo hi (.str x) = false := (rfl)
@[simp] theorem isTup_str (lo hi : Int) (x : Str) : isTup lo hi (.str x) = false := (rfl)
@[simp] theorem noD_tup (x : List D) : noD (.tup x) = true := (rfl)
@[simp] theorem isW_tup (x : List D) : isW (.tup x) = false := (rfl)
@[simp] theorem isWin_tup (lo hi : Int) (x : List D) : isWin lo hi (.tup x) = false := (rfl)
@[simp] theorem isTup_tup (lo hi : Int) (x : List D) : isTup lo hi (.tup x) = (decide (lo ≤ x.length) && decide (x.length ≤ hi)) := (rfl)
@[simp] theorem noD_lst (x : List D) : noD (.lst x) = true := (rfl)
@[simp] theorem isW_lst (x : List D) : isW (.lst x) = false := (rfl)
@[simp] theorem isWin_lst (lo hi : Int) (x : List D) : isWin lo hi (.lst x) = false := (rfl)
@[simp] theorem isTup_lst (lo hi : Int) (x : List D) : isTup lo hi (.lst x) = false := (rfl)
@[simp] theorem noD_scr (x : List Int) : noD (.scr x) = true := (rfl)
@[simp] theorem isW_scr (x : List Int) : isW (.scr x) = false := (rfl)
@[simp] theorem isWin_scr (lo hi : Int) (x : List Int) : isWin lo hi (.scr x) = false := (rfl)
@[simp] theorem isTup_scr (lo hi : Int) (x : List Int) : isTup lo hi (.scr x) = false := (rfl)
@[simp] theorem noD_dic (k : List (D × D)) : noD (.dic k) = false := (rfl)
def b_is_tuple_of : Sx := sRet [] (eAnd (bE (tIsi (isT .tuple) (eVar 0))) (bE (tCh dLe dLe (eVar 1) (eB dLen (aCons (eVar 0) (aNil))) (eVar 2))))
def m_is_tuple_of : Fn := runF 0 b_is_tuple_of
def b_is_whole : Sx := sRet [] (eAnd (bE (tIsi (isT .int) (eVar 0))) (eNot (bE (tIsi (isT .bool) (eVar 0)))))
def m_is_whole : Fn := runF 0 b_is_whole
def b_is_whole_in : Sx := sRet [] (eAnd (eCall [] 1 m_is_whole (aCons (eVar 0) (aNil))) (bE (tCh dLe dLe (eVar 1) (eVar 0) (eVar 2))))
def m_is_whole_in : Fn := runF 0 b_is_whole_in
theorem s_is_whole (d : D) (h : noD d = true) : m_is_whole [d] = .ok (.v (.bl (isW d))) := by
  cases d <;> first | (simp at h; done) | simp [m_is_whole, b_is_whole]
theorem s_is_whole_in (d : D) (lo hi : Int) (h : noD d = true) : m_is_whole_in [d, .int lo, .int hi] = .ok (.v (.bl (isWin lo hi d))) := by
  cases d <;> first | (simp at h; done) | simp [m_is_whole_in, b_is_whole_in, s_is_whole]
  all_goals (split <;> simp_all <;> omega)
theorem s_is_tuple_of (d : D) (lo hi : Int) (h : noD d = true) : m_is_tuple_of [d, .int lo, .int hi] = .ok (.v (.bl (isTup lo hi d))) := by
  cases d <;> first | (simp at h; done) | simp [m_is_tuple_of, b_is_tuple_of]
  all_goals (split <;> simp_all <;> omega)
end Std

namespace K17
open PL PySem
def cat_BadRighting : List (Str × Bool) := [("BadRighting", true)]
def c_DEEPEST : D := .int 12
def c_MOST_FILES : D := .int 4
def c_MOST_GAUGES : D := .int 6
def b__law_pool_f1 : Sx := sIf (tOr (t2 dGt (eVar 3) (eC (.int 0))) (t2 dEq (eVar 4) (eC (.int 0)))) (sSeq (sEx (eMl [] 1 mAppend (aCons (e2 dMod (eB dInt1 (aCons (eVar 3) (aNil))) (eC (.int 1000))) (aNil)))) (sSet [] 3 (e2 dDiv (eVar 3) (eC (.int 1000))))) (sNil)
def b__law_pool_f2 : Sx := sSeq (sSet [] 3 (eB dAbs (aCons (eB dInt1 (aCons (eVar 2) (aNil))) (aNil)))) (sFor (iRg1 (aCons (eC (.int 40)) (aNil))) (gNm [] 4) b__law_pool_f1)
def b__law_pool : Sx := sSeq (sSet [] 1 (eLst [] (aNil))) (sSeq (sFor (iVal [] (eSl (eVar 0) (pNo) (pSo (eC (.int 63))))) (gNm [] 2) b__law_pool_f2) (sRet [] (eSl (eVar 1) (pNo) (pSo (eC (.int 240))))))
def m__law_pool : Fn := runF 4 b__law_pool
def b__law_pair : Sx := sSeq (sSet [] 3 (e2 dMod (eB dInt1 (aCons (eVar 0) (aNil))) (e2 dAdd (eVar 2) (eC (.int 1))))) (sRet [] (eTup [] (aCons (eVar 3) (aCons (e2 dAdd (eVar 3) (e2 dMod (eB dInt1 (aCons (eVar 1) (aNil))) (e2 dSub (e2 dAdd (eVar 2) (eC (.int 1))) (eVar 3)))) (aNil)))))
def m__law_pair : Fn := runF 1 b__law_pair
def b__law_at : Sx := sSeq (sIf (t2 dLt (eVar 1) (eB dLen (aCons (eVar 0) (aNil)))) (sRet [] (e2 dIx (eVar 0) (eVar 1))) (sNil)) (sSeq (sSet [] 2 (e2 dAdd (eC (.int 11)) (e2 dMul (eC (.int 37)) (eVar 1)))) (sSeq (sIf (t2 dGt (eB dLen (aCons (eVar 0) (aNil))) (eC (.int 0))) (sSet [] 2 (e2 dAdd (e2 dAdd (eVar 2) (e2 dMul (e2 dAdd (e2 dIx (eVar 0) (e2 dMod (eB dInt1 (aCons (eVar 1) (aNil))) (eB dLen (aCons (eVar 0) (aNil))))) (eC (.int 5))) (e2 dAdd (e2 dMul (eVar 1) (eVar 1)) (eC (.int 17))))) (eB dLen (aCons (eVar 0) (aNil))))) (sNil)) (sSeq (sSet [] 2 (e2 dMod (eB dInt1 (aCons (e2 dAdd (e2 dMul (eVar 2) (eC (.int 48271))) (eC (.int 12345))) (aNil))) (eC (.int 2147483647)))) (sSeq (sSet [] 2 (e2 dMod (eB dInt1 (aCons (e2 dAdd (e2 dMul (eVar 2) (eVar 2)) (eVar 1)) (aNil))) (eC (.int 2147483629)))) (sSeq (sSet [] 2 (e2 dMod (eB dInt1 (aCons (e2 dAdd (e2 dMul (eVar 2) (eVar 2)) (eC (.int 7))) (aNil))) (eC (.int 2147483647)))) (sRet [] (e2 dMod (eB dInt1 (aCons (e2 dDiv (eVar 2) (eC (.int 11))) (aNil))) (eC (.int 1000)))))))))
def m__law_at : Fn := runF 1 b__law_at
def b__law_righting_f1 : Sx := sSeq (sIf (tAnd (t2 dEq (e2 dMod (eB dInt1 (aCons (eVar 4) (aNil))) (eC (.int 2))) (eC (.int 1))) (t2 dLt (eB dLen (aCons (eVar 5) (aNil))) (eC (.int 6)))) (sEx (eMl [] 5 mAppend (aCons (eVar 6) (aNil)))) (sNil)) (sSet [] 4 (e2 dDiv (eVar 4) (eC (.int 2))))
def b__law_righting_f2 : Sx := sSeq (sSet [] 11 (eB dInt1 (aCons (eCall [] 2 m__law_at (aCons (eVar 0) (aCons (e2 dAdd (e2 dAdd (eVar 1) (eC (.int 3))) (eVar 8)) (aNil)))) (aNil)))) (sSeq (sSet [] 12 (e2 dAdd (eC (.int 1)) (e2 dMod (eB dInt1 (aCons (e2 dDiv (eVar 11) (eC (.int 3))) (aNil))) (eVar 3)))) (sSeq (sSet [] 13 (e2 dIx (eLst [] (aCons (eC (.int 0)) (aCons (eC (.int 0)) (aCons (eC (.int 1)) (aNil))))) (e2 dMod (eB dInt1 (aCons (eVar 11) (aNil))) (eC (.int 3))))) (sSeq (sIf (t2 dEq (e2 dMod (eB dInt1 (aCons (e2 dDiv (eVar 11) (eC (.int 40))) (aNil))) (eC (.int 7))) (eC (.int 0))) (sSet [] 13 (e2 dMod (eB dInt1 (aCons (e2 dDiv (eVar 11) (eC (.int 280))) (aNil))) (e2 dAdd (eVar 12) (eC (.int 1))))) (sNil)) (sEx (eMl [] 7 mAppend (aCons (eTup [] (aCons (eVar 12) (aCons (eB dMin (aCons (eVar 13) (aCons (eVar 12) (aNil)))) (aNil)))) (aNil)))))))
def b__law_righting : Sx := sSeq (sSet [] 2 (eB dInt1 (aCons (eCall [] 2 m__law_at (aCons (eVar 0) (aCons (eVar 1) (aNil)))) (aNil)))) (sSeq (sSet [] 3 (e2 dAdd (eC (.int 1)) (e2 dMod (eB dInt1 (aCons (eVar 2) (aNil))) (eC (.int 8))))) (sSeq (sIf (t2 dEq (e2 dMod (eB dInt1 (aCons (e2 dDiv (eVar 2) (eC (.int 8))) (aNil))) (eC (.int 6))) (eC (.int 0))) (sSet [] 3 (e2 dAdd (eC (.int 9)) (e2 dMod (eB dInt1 (aCons (e2 dDiv (eVar 2) (eC (.int 48))) (aNil))) (eC (.int 4))))) (sNil)) (sSeq (sSet [] 4 (e2 dAdd (e2 dMul (eB dInt1 (aCons (eCall [] 2 m__law_at (aCons (eVar 0) (aCons (e2 dAdd (eVar 1) (eC (.int 1))) (aNil)))) (aNil))) (eC (.int 5))) (eB dInt1 (aCons (e2 dDiv (eVar 2) (eC (.int 200))) (aNil))))) (sSeq (sSet [] 5 (eLst [] (aNil))) (sSeq (sFor (iRg1 (aCons (eVar 3) (aNil))) (gNm [] 6) b__law_righting_f1) (sSeq (sSet [] 7 (eLst [] (aNil))) (sSeq (sFor (iRg1 (aCons (e2 dMod (eB dInt1 (aCons (eCall [] 2 m__law_at (aCons (eVar 0) (aCons (e2 dAdd (eVar 1) (eC (.int 2))) (aNil)))) (aNil))) (eC (.int 5))) (aNil))) (gNm [] 8) b__law_righting_f2) (sSeq (sSet [] 9 (eCall [] 3 m__law_pair (aCons (eCall [] 2 m__law_at (aCons (eVar 0) (aCons (e2 dAdd (eVar 1) (eC (.int 7))) (aNil)))) (aCons (eCall [] 2 m__law_at (aCons (eVar 0) (aCons (e2 dAdd (eVar 1) (eC (.int 8))) (aNil)))) (aCons (eVar 3) (aNil)))))) (sSeq (sSet [] 10 (eCall [] 3 m__law_pair (aCons (eCall [] 2 m__law_at (aCons (eVar 0) (aCons (e2 dAdd (eVar 1) (eC (.int 9))) (aNil)))) (aCons (eCall [] 2 m__law_at (aCons (eVar 0) (aCons (e2 dAdd (eVar 1) (eC (.int 10))) (aNil)))) (aCons (eVar 3) (aNil)))))) (sSeq (sIf (t2 dGt (e2 dMod (eB dInt1 (aCons (eCall [] 2 m__law_at (aCons (eVar 0) (aCons (e2 dAdd (eVar 1) (eC (.int 11))) (aNil)))) (aNil))) (eC (.int 3))) (eC (.int 0))) (sSet [] 10 (eTup [] (aCons (eC (.int 0)) (aCons (e2 dMod (e2 dMod (eB dInt1 (aCons (eCall [] 2 m__law_at (aCons (eVar 0) (aCons (e2 dAdd (eVar 1) (eC (.int 9))) (aNil)))) (aNil))) (eC (.int 3))) (e2 dAdd (eVar 3) (eC (.int 1)))) (aNil))))) (sNil)) (sRet [] (eTup [] (aCons (eVar 3) (aCons (eVar 9) (aCons (eVar 10) (aCons (eB dTup1 (aCons (eVar 5) (aNil))) (aCons (eB dTup1 (aCons (eVar 7) (aNil))) (aNil))))))))))))))))))
def m__law_righting : Fn := runF 12 b__law_righting
def b__law_states_f1 : Sx := sEx (eMl [] 1 mAppend (aCons (eTup [] (aCons (eVar 2) (aCons (eVar 3) (aNil)))) (aNil)))
def b__law_states_f2 : Sx := sFor (iRg2 (aCons (eVar 2) (aCons (e2 dAdd (eVar 0) (eC (.int 1))) (aNil)))) (gNm [] 3) b__law_states_f1
def b__law_states : Sx := sSeq (sSet [] 1 (eLst [] (aNil))) (sSeq (sFor (iRg1 (aCons (e2 dAdd (eVar 0) (eC (.int 1))) (aNil))) (gNm [] 2) b__law_states_f2) (sRet [] (eVar 1)))
def m__law_states : Fn := runF 3 b__law_states
def b__law_bad_subjects_f1 : Sx := sSeq (sEx (eMl [] 2 mAppend (aCons (e2 dAdd (eTup [] (aCons (eVar 1) (aCons (eVar 3) (aNil)))) (eSl (eVar 0) (pSo (eC (.int 2))) (pNo))) (aNil)))) (sEx (eMl [] 2 mAppend (aCons (e2 dAdd (eTup [] (aCons (eVar 1) (aCons (e2 dIx (eVar 0) (eC (.int 1))) (aCons (eVar 3) (aNil))))) (eSl (eVar 0) (pSo (eC (.int 3))) (pNo))) (aNil))))
def b__law_bad_subjects_f2 : Sx := sEx (eMl [] 2 mAppend (aCons (eTup [] (aCons (eVar 1) (aCons (e2 dIx (eVar 0) (eC (.int 1))) (aCons (e2 dIx (eVar 0) (eC (.int 2))) (aCons (eVar 4) (aCons (e2 dIx (eVar 0) (eC (.int 4))) (aNil))))))) (aNil)))
def b__law_bad_subjects_f3 : Sx := sEx (eMl [] 2 mAppend (aCons (eTup [] (aCons (eVar 1) (aCons (e2 dIx (eVar 0) (eC (.int 1))) (aCons (e2 dIx (eVar 0) (eC (.int 2))) (aCons (e2 dIx (eVar 0) (eC (.int 3))) (aCons (eVar 5) (aNil))))))) (aNil)))
def b__law_bad_subjects : Sx := sSeq (sSet [] 1 (e2 dIx (eVar 0) (eC (.int 0)))) (sSeq (sSet [] 2 (eLst [] (aCons (e2 dAdd (eTup [] (aCons (eC (.int 0)) (aNil))) (eSl (eVar 0) (pSo (eC (.int 1))) (pNo))) (aCons (e2 dAdd (eTup [] (aCons (eC (.int 13)) (aNil))) (eSl (eVar 0) (pSo (eC (.int 1))) (pNo))) (aCons (e2 dAdd (eTup [] (aCons (eC (.bl true)) (aNil))) (eSl (eVar 0) (pSo (eC (.int 1))) (pNo))) (aCons (eSl (eVar 0) (pNo) (pSo (eC (.int 4)))) (aCons (eB dLst1 (aCons (eVar 0) (aNil))) (aNil)))))))) (sSeq (sFor (iVal [] (eLst [] (aCons (eTup [] (aCons (eC (.int 0)) (aCons (e2 dAdd (eVar 1) (eC (.int 1))) (aNil)))) (aCons (eTup [] (aCons (eC (.int 1)) (aCons (eC (.int 0)) (aNil)))) (aCons (eTup [] (aCons (e1 dNeg (eC (.int 1))) (aCons (eC (.int 0)) (aNil)))) (aCons (eTup [] (aCons (eC (.bl false)) (aCons (eC (.int 0)) (aNil)))) (aCons (eTup [] (aCons (eC (.int 0)) (aNil))) (aCons (eC .non) (aNil))))))))) (gNm [] 3) b__law_bad_subjects_f1) (sSeq (sFor (iVal [] (eLst [] (aCons (eTup [] (aCons (eVar 1) (aNil))) (aCons (eTup [] (aCons (e1 dNeg (eC (.int 1))) (aNil))) (aCons (eTup [] (aCons (eC (.int 0)) (aCons (eC (.int 0)) (aNil)))) (aCons (eTup [] (aCons (eC (.int 1)) (aCons (eC (.int 0)) (aNil)))) (aCons (eTup [] (aCons (eC (.bl false)) (aNil))) (aCons (eB dLst1 (aCons (e2 dIx (eVar 0) (eC (.int 3))) (aNil))) (aCons (eTup [] (aCons (eC (.int 0)) (aCons (eC (.int 1)) (aCons (eC (.int 2)) (aCons (eC (.int 3)) (aCons (eC (.int 4)) (aCons (eC (.int 5)) (aCons (eC (.int 6)) (aNil))))))))) (aNil)))))))))) (gNm [] 4) b__law_bad_subjects_f2) (sSeq (sFor (iVal [] (eLst [] (aCons (eTup [] (aCons (eTup [] (aCons (eC (.int 0)) (aCons (eC (.int 0)) (aNil)))) (aNil))) (aCons (eTup [] (aCons (eTup [] (aCons (e2 dAdd (eVar 1) (eC (.int 1))) (aCons (eC (.int 0)) (aNil)))) (aNil))) (aCons (eTup [] (aCons (eTup [] (aCons (eC (.int 1)) (aCons (eC (.int 2)) (aNil)))) (aNil))) (aCons (eTup [] (aCons (eTup [] (aCons (eC (.int 1)) (aCons (e1 dNeg (eC (.int 1))) (aNil)))) (aNil))) (aCons (eTup [] (aCons (eTup [] (aCons (eC (.int 1)) (aNil))) (aNil))) (aCons (e2 dMul (eTup [] (aCons (eTup [] (aCons (eC (.int 1)) (aCons (eC (.int 0)) (aNil)))) (aNil))) (eC (.int 5))) (aCons (eC .non) (aCons (eTup [] (aCons (eTup [] (aCons (eC (.int 1)) (aCons (eC (.bl false)) (aNil)))) (aNil))) (aNil))))))))))) (gNm [] 5) b__law_bad_subjects_f3) (sRet [] (eVar 2))))))
def m__law_bad_subjects : Fn := runF 5 b__law_bad_subjects
def b_is_tuple_of : Sx := sRet [] (eAnd (bE (tIsi (isT .tuple) (eVar 0))) (bE (tCh dLe dLe (eVar 1) (eB dLen (aCons (eVar 0) (aNil))) (eVar 2))))
def m_is_tuple_of : Fn := runF 0 b_is_tuple_of
def b_is_whole : Sx := sRet [] (eAnd (bE (tIsi (isT .int) (eVar 0))) (eNot (bE (tIsi (isT .bool) (eVar 0)))))
def m_is_whole : Fn := runF 0 b_is_whole
def b_is_whole_in : Sx := sRet [] (eAnd (eCall [] 1 m_is_whole (aCons (eVar 0) (aNil))) (bE (tCh dLe dLe (eVar 1) (eVar 0) (eVar 2))))
def m_is_whole_in : Fn := runF 0 b_is_whole_in
def b_is_state : Sx := sSeq (sIf (tNot (tTru (eCall [] 3 m_is_tuple_of (aCons (eVar 1) (aCons (eC (.int 2)) (aCons (eC (.int 2)) (aNil))))))) (sRet [] (eC (.bl false))) (sNil)) (sRet [] (eAnd (eCall [] 3 m_is_whole_in (aCons (e2 dIx (eVar 1) (eC (.int 0))) (aCons (eC (.int 0)) (aCons (eVar 0) (aNil))))) (eCall [] 3 m_is_whole_in (aCons (e2 dIx (eVar 1) (eC (.int 1))) (aCons (e2 dIx (eVar 1) (eC (.int 0))) (aCons (eVar 0) (aNil)))))))
def m_is_state : Fn := runF 0 b_is_state
def b_is_rising_f1 : Sx := sIf (tNot (tTru (eCall [] 1 m_is_whole (aCons (eVar 1) (aNil))))) (sRet [] (eC (.bl false))) (sNil)
def b_is_rising_f2 : Sx := sIf (t2 dGe (e2 dIx (eVar 0) (e2 dSub (eVar 2) (eC (.int 1)))) (e2 dIx (eVar 0) (eVar 2))) (sRet [] (eC (.bl false))) (sNil)
def b_is_rising : Sx := sSeq (sIf (tNot (tIsi (isT .tuple) (eVar 0))) (sRet [] (eC (.bl false))) (sNil)) (sSeq (sFor (iVal [] (eVar 0)) (gNm [] 1) b_is_rising_f1) (sSeq (sFor (iRg2 (aCons (eC (.int 1)) (aCons (eB dLen (aCons (eVar 0) (aNil))) (aNil)))) (gNm [] 2) b_is_rising_f2) (sRet [] (eC (.bl true)))))
def m_is_rising : Fn := runF 2 b_is_rising
def b_is_file : Sx := sSeq (sIf (tNot (tTru (eCall [] 3 m_is_tuple_of (aCons (eVar 1) (aCons (eC (.int 2)) (aCons (eC (.int 2)) (aNil))))))) (sRet [] (eC (.bl false))) (sNil)) (sRet [] (eAnd (eCall [] 3 m_is_whole_in (aCons (e2 dIx (eVar 1) (eC (.int 0))) (aCons (eC (.int 1)) (aCons (eVar 0) (aNil))))) (eCall [] 3 m_is_whole_in (aCons (e2 dIx (eVar 1) (eC (.int 1))) (aCons (eC (.int 0)) (aCons (e2 dIx (eVar 1) (eC (.int 0))) (aNil)))))))
def m_is_file : Fn := runF 0 b_is_file
def b_check_righting_c1 : Ex := eCall [] 3 m_is_whole_in (aCons (eVar 6) (aCons (eC (.int 0)) (aCons (e2 dSub (eVar 1) (eC (.int 1))) (aNil))))
def b_check_righting_c2 : Ex := eCall [] 2 m_is_file (aCons (eVar 1) (aCons (eVar 7) (aNil)))
def b_check_righting : Sx := sSeq (sIf (tNot (tTru (eCall [] 3 m_is_tuple_of (aCons (eVar 0) (aCons (eC (.int 5)) (aCons (eC (.int 5)) (aNil))))))) (sRaise "BadRighting") (sNil)) (sSeq (sAsg [] (eVar 0) (gTp 5 (gsCons (gNm [] 1) (gsCons (gNm [] 2) (gsCons (gNm [] 3) (gsCons (gNm [] 4) (gsCons (gNm [] 5) (gsNil)))))))) (sSeq (sIf (tNot (tTru (eCall [] 3 m_is_whole_in (aCons (eVar 1) (aCons (eC (.int 1)) (aCons (eC c_DEEPEST) (aNil))))))) (sRaise "BadRighting") (sNil)) (sSeq (sIf (tOr (tNot (tTru (eCall [] 2 m_is_state (aCons (eVar 1) (aCons (eVar 2) (aNil)))))) (tNot (tTru (eCall [] 2 m_is_state (aCons (eVar 1) (aCons (eVar 3) (aNil))))))) (sRaise "BadRighting") (sNil)) (sSeq (sIf (tOr (tNot (tTru (eCall [] 3 m_is_tuple_of (aCons (eVar 4) (aCons (eC (.int 0)) (aCons (eC c_MOST_GAUGES) (aNil))))))) (tNot (tTru (eCall [] 1 m_is_rising (aCons (eVar 4) (aNil)))))) (sRaise "BadRighting") (sNil)) (sSeq (sIf (tNot (tTru (eB dAll (aCons (eLc [] [6] (iVal [] (eVar 4)) (gNm [] 6) (tsNo) b_check_righting_c1) (aNil))))) (sRaise "BadRighting") (sNil)) (sIf (tOr (tNot (tTru (eCall [] 3 m_is_tuple_of (aCons (eVar 5) (aCons (eC (.int 0)) (aCons (eC c_MOST_FILES) (aNil))))))) (tNot (tTru (eB dAll (aCons (eLc [] [7] (iVal [] (eVar 5)) (gNm [] 7) (tsNo) b_check_righting_c2) (aNil)))))) (sRaise "BadRighting") (sNil)))))))
def m_check_righting : Fn := runF 7 b_check_righting
def b__law_moves_f1 : Sx := sIf (tCh dLe dLt (e2 dIx (eVar 1) (eC (.int 0))) (eVar 3) (e2 dIx (eVar 1) (eC (.int 1)))) (sEx (eMl [] 2 mAppend (aCons (eTup [] (aCons (eC (.str "gauge")) (aCons (eVar 3) (aNil)))) (aNil)))) (sNil)
def b__law_moves_f2 : Sx := sIf (t2 dGe (e2 dSub (e2 dSub (e2 dIx (eVar 1) (eC (.int 0))) (e2 dIx (e2 dIx (e2 dIx (eVar 0) (eC (.int 4))) (eVar 4)) (eC (.int 0)))) (e2 dIx (e2 dIx (e2 dIx (eVar 0) (eC (.int 4))) (eVar 4)) (eC (.int 1)))) (eC (.int 0))) (sEx (eMl [] 2 mAppend (aCons (eTup [] (aCons (eC (.str "file")) (aCons (eVar 4) (aNil)))) (aNil)))) (sNil)
def b__law_moves : Sx := sSeq (sSet [] 2 (eLst [] (aNil))) (sSeq (sFor (iVal [] (e2 dIx (eVar 0) (eC (.int 3)))) (gNm [] 3) b__law_moves_f1) (sSeq (sFor (iRg1 (aCons (eB dLen (aCons (e2 dIx (eVar 0) (eC (.int 4))) (aNil))) (aNil))) (gNm [] 4) b__law_moves_f2) (sRet [] (eVar 2))))
def m__law_moves : Fn := runF 3 b__law_moves
def b__law_same_f1 (S : Fn) : Sx := sIf (tNot (tTru (eCall [] 2 S (aCons (e2 dIx (eVar 0) (eVar 2)) (aCons (e2 dIx (eVar 1) (eVar 2)) (aNil)))))) (sRet [] (eC (.bl false))) (sNil)
def b__law_same (S : Fn) : Sx := sSeq (sIf (tIsi (isT .tuple) (eVar 1)) (sSeq (sIf (tOr (tNot (tIsi (isT .tuple) (eVar 0))) (t2 dNe (eB dLen (aCons (eVar 0) (aNil))) (eB dLen (aCons (eVar 1) (aNil))))) (sRet [] (eC (.bl false))) (sNil)) (sSeq (sFor (iRg1 (aCons (eB dLen (aCons (eVar 1) (aNil))) (aNil))) (gNm [] 2) (b__law_same_f1 S)) (sRet [] (eC (.bl true))))) (sNil)) (sSeq (sIf (t2 dIs (eVar 1) (eC .non)) (sRet [] (bE (t2 dIs (eVar 0) (eC .non)))) (sNil)) (sSeq (sIf (t2 dIs (eVar 1) (eC (.bl true))) (sRet [] (bE (t2 dIs (eVar 0) (eC (.bl true))))) (sNil)) (sSeq (sIf (t2 dIs (eVar 1) (eC (.bl false))) (sRet [] (bE (t2 dIs (eVar 0) (eC (.bl false))))) (sNil)) (sSeq (sIf (tIsi (isT .int) (eVar 1)) (sRet [] (eAnd (bE (tIsi (isT .int) (eVar 0))) (eAnd (eNot (bE (tIsi (isT .bool) (eVar 0)))) (bE (t2 dEq (eVar 0) (eVar 1)))))) (sNil)) (sRet [] (eAnd (bE (tIsi (isT .str) (eVar 0))) (bE (t2 dEq (eVar 0) (eVar 1)))))))))
def r__law_same : Nat → Fn
  | 0 => fun _ => .stuck
  | n + 1 => runF 1 (b__law_same (r__law_same n))
def m__law_same : Fn := r__law_same 40
def b_check_state : Sx := sSeq (sEx (eCall [] 1 m_check_righting (aCons (eVar 0) (aNil)))) (sIf (tNot (tTru (eCall [] 2 m_is_state (aCons (e2 dIx (eVar 0) (eC (.int 0))) (aCons (eVar 1) (aNil)))))) (sRaise "BadRighting") (sNil))
def m_check_state : Fn := runF 0 b_check_state
def b_outcomes_at : Sx := sSeq (sAsg [] (eVar 1) (gTp 2 (gsCons (gNm [] 3) (gsCons (gNm [] 4) (gsNil))))) (sSeq (sIf (t2 dEq (e2 dIx (eVar 2) (eC (.int 0))) (eC (.str "gauge"))) (sRet [] (eTup [] (aCons (eTup [] (aCons (eVar 3) (aCons (e2 dIx (eVar 2) (eC (.int 1))) (aNil)))) (aCons (eTup [] (aCons (e2 dAdd (e2 dIx (eVar 2) (eC (.int 1))) (eC (.int 1))) (aCons (eVar 4) (aNil)))) (aNil))))) (sNil)) (sSeq (sAsg [] (e2 dIx (e2 dIx (eVar 0) (eC (.int 4))) (e2 dIx (eVar 2) (eC (.int 1)))) (gTp 2 (gsCons (gNm [] 5) (gsCons (gNm [] 6) (gsNil))))) (sRet [] (eTup [] (aCons (eTup [] (aCons (e2 dSub (e2 dSub (eVar 3) (eVar 5)) (eVar 6)) (aCons (e2 dAdd (e2 dSub (eVar 4) (eVar 5)) (eVar 6)) (aNil)))) (aNil))))))
def m_outcomes_at : Fn := runF 4 b_outcomes_at
def b_moves_at_c1 : Ex := eTup [] (aCons (eC (.str "gauge")) (aCons (eVar 6) (aNil)))
def b_moves_at_f2 : Sx := sIf (t2 dGe (e2 dSub (e2 dSub (eVar 3) (eVar 7)) (eVar 8)) (eC (.int 0))) (sEx (eMl [] 2 mAppend (aCons (eTup [] (aCons (eC (.str "file")) (aCons (eVar 5) (aNil)))) (aNil)))) (sNil)
def b_moves_at : Sx := sSeq (sAsg [] (eVar 1) (gTp 2 (gsCons (gNm [] 3) (gsCons (gNm [] 4) (gsNil))))) (sSeq (sSet [] 2 (eLc [] [6] (iVal [] (e2 dIx (eVar 0) (eC (.int 3)))) (gNm [] 6) (tCh dLe dLt (eVar 3) (eVar 6) (eVar 4)) b_moves_at_c1)) (sSeq (sFor (iEn [] (e2 dIx (eVar 0) (eC (.int 4)))) (gTp 2 (gsCons (gNm [] 5) (gsCons (gTp 2 (gsCons (gNm [] 7) (gsCons (gNm [] 8) (gsNil)))) (gsNil)))) b_moves_at_f2) (sRet [] (eB dTup1 (aCons (eVar 2) (aNil))))))
def m_moves_at : Fn := runF 7 b_moves_at
def b_is_move_at : Sx := sSeq (sIf (tOr (tNot (tTru (eCall [] 3 m_is_tuple_of (aCons (eVar 2) (aCons (eC (.int 2)) (aCons (eC (.int 2)) (aNil))))))) (tOr (tNot (tIsi (isT .str) (e2 dIx (eVar 2) (eC (.int 0))))) (tNot (tTru (eCall [] 1 m_is_whole (aCons (e2 dIx (eVar 2) (eC (.int 1))) (aNil))))))) (sRet [] (eC (.bl false))) (sNil)) (sRet [] (bE (t2 dIn (eVar 2) (eCall [] 2 m_moves_at (aCons (eVar 0) (aCons (eVar 1) (aNil)))))))
def m_is_move_at : Fn := runF 0 b_is_move_at
def b_outcomes : Sx := sSeq (sEx (eCall [] 2 m_check_state (aCons (eVar 0) (aCons (eVar 1) (aNil))))) (sSeq (sIf (tNot (tTru (eCall [] 3 m_is_move_at (aCons (eVar 0) (aCons (eVar 1) (aCons (eVar 2) (aNil))))))) (sRet [] (eC .non)) (sNil)) (sRet [] (eCall [] 3 m_outcomes_at (aCons (eVar 0) (aCons (eVar 1) (aCons (eVar 2) (aNil)))))))
def m_outcomes : Fn := runF 0 b_outcomes
def b_moves : Sx := sSeq (sEx (eCall [] 2 m_check_state (aCons (eVar 0) (aCons (eVar 1) (aNil))))) (sRet [] (eCall [] 2 m_moves_at (aCons (eVar 0) (aCons (eVar 1) (aNil)))))
def m_moves : Fn := runF 0 b_moves
def b__law_no_state : Sx := sSeq (sTry 0 (cat_BadRighting) (hC (.bl true)) (sEx (eCall [] 2 m_moves (aCons (eVar 0) (aCons (eVar 1) (aNil)))))) (sRet [] (eC (.bl false)))
def m__law_no_state : Fn := runF 0 b__law_no_state
def b__law_refused : Sx := sSeq (sTry 0 (cat_BadRighting) (hC (.bl true)) (sEx (eCall [] 1 m_check_righting (aCons (eVar 0) (aNil))))) (sRet [] (eC (.bl false)))
def m__law_refused : Fn := runF 0 b__law_refused
def b_lies_within : Sx := sRet [] (eAnd (bE (t2 dLe (e2 dIx (eVar 0) (eC (.int 0))) (e2 dIx (eVar 1) (eC (.int 0))))) (bE (t2 dLe (e2 dIx (eVar 1) (eC (.int 1))) (e2 dIx (eVar 0) (eC (.int 1))))))
def m_lies_within : Fn := runF 0 b_lies_within
def b_is_done : Sx := sSeq (sEx (eCall [] 2 m_check_state (aCons (eVar 0) (aCons (eVar 1) (aNil))))) (sRet [] (eCall [] 2 m_lies_within (aCons (e2 dIx (eVar 0) (eC (.int 2))) (aCons (eVar 1) (aNil)))))
def m_is_done : Fn := runF 0 b_is_done
def b__law_done : Sx := sRet [] (eAnd (bE (t2 dLe (e2 dIx (e2 dIx (eVar 0) (eC (.int 2))) (eC (.int 0))) (e2 dIx (eVar 1) (eC (.int 0))))) (bE (t2 dLe (e2 dIx (eVar 1) (eC (.int 1))) (e2 dIx (e2 dIx (eVar 0) (eC (.int 2))) (eC (.int 1))))))
def m__law_done : Fn := runF 0 b__law_done
def b__law_outcomes : Sx := sSeq (sIf (t2 dEq (e2 dIx (eVar 2) (eC (.int 0))) (eC (.str "gauge"))) (sRet [] (eTup [] (aCons (eTup [] (aCons (e2 dIx (eVar 1) (eC (.int 0))) (aCons (e2 dIx (eVar 2) (eC (.int 1))) (aNil)))) (aCons (eTup [] (aCons (e2 dAdd (e2 dIx (eVar 2) (eC (.int 1))) (eC (.int 1))) (aCons (e2 dIx (eVar 1) (eC (.int 1))) (aNil)))) (aNil))))) (sNil)) (sSeq (sSet [] 3 (e2 dIx (e2 dIx (e2 dIx (eVar 0) (eC (.int 4))) (e2 dIx (eVar 2) (eC (.int 1)))) (eC (.int 0)))) (sSeq (sSet [] 4 (e2 dIx (e2 dIx (e2 dIx (eVar 0) (eC (.int 4))) (e2 dIx (eVar 2) (eC (.int 1)))) (eC (.int 1)))) (sRet [] (eTup [] (aCons (eTup [] (aCons (e2 dSub (e2 dSub (e2 dIx (eVar 1) (eC (.int 0))) (eVar 3)) (eVar 4)) (aCons (e2 dAdd (e2 dSub (e2 dIx (eVar 1) (eC (.int 1))) (eVar 3)) (eVar 4)) (aNil)))) (aNil))))))
def m__law_outcomes : Fn := runF 2 b__law_outcomes
def b_law_f1 : Sx := sIf (tNot (tTru (eCall [] 2 m__law_same (aCons (eCall [] 3 m_outcomes (aCons (eVar 2) (aCons (eVar 3) (aCons (eVar 8) (aNil))))) (aCons (eCall [] 3 m__law_outcomes (aCons (eVar 2) (aCons (eVar 3) (aCons (eVar 8) (aNil))))) (aNil)))))) (sRet [] (eC (.bl false))) (sNil)
def b_law_f2 : Sx := sSeq (sSet [] 7 (eCall [] 2 m__law_moves (aCons (eVar 2) (aCons (eVar 3) (aNil))))) (sSeq (sIf (tNot (tTru (eCall [] 2 m__law_same (aCons (eCall [] 2 m_is_done (aCons (eVar 2) (aCons (eVar 3) (aNil)))) (aCons (eCall [] 2 m__law_done (aCons (eVar 2) (aCons (eVar 3) (aNil)))) (aNil)))))) (sRet [] (eC (.bl false))) (sNil)) (sSeq (sIf (tNot (tTru (eCall [] 2 m__law_same (aCons (eCall [] 2 m_moves (aCons (eVar 2) (aCons (eVar 3) (aNil)))) (aCons (eB dTup1 (aCons (eVar 7) (aNil))) (aNil)))))) (sRet [] (eC (.bl false))) (sNil)) (sFor (iVal [] (eVar 7)) (gNm [] 8) b_law_f1)))
def b_law_f3 : Sx := sSeq (sSet [] 10 (eCall [] 3 m_outcomes (aCons (eVar 2) (aCons (eVar 3) (aCons (eTup [] (aCons (eVar 9) (aCons (eVar 4) (aNil)))) (aNil)))))) (sSeq (sSet [] 11 (eC .non)) (sSeq (sIf (t2 dIn (eTup [] (aCons (eVar 9) (aCons (eVar 4) (aNil)))) (eCall [] 2 m__law_moves (aCons (eVar 2) (aCons (eVar 3) (aNil))))) (sSet [] 11 (eCall [] 3 m__law_outcomes (aCons (eVar 2) (aCons (eVar 3) (aCons (eTup [] (aCons (eVar 9) (aCons (eVar 4) (aNil)))) (aNil)))))) (sNil)) (sIf (tNot (tTru (eCall [] 2 m__law_same (aCons (eVar 10) (aCons (eVar 11) (aNil)))))) (sRet [] (eC (.bl false))) (sNil))))
def b_law_f4 : Sx := sFor (iVal [] (eLst [] (aCons (eC (.str "gauge")) (aCons (eC (.str "file")) (aCons (eC (.str "rub")) (aNil)))))) (gNm [] 9) b_law_f3
def b_law_f5 : Sx := sIf (t2 dIsNot (eCall [] 3 m_outcomes (aCons (eVar 2) (aCons (eVar 3) (aCons (eVar 5) (aNil))))) (eC .non)) (sRet [] (eC (.bl false))) (sNil)
def b_law_f6 : Sx := sIf (tNot (tTru (eCall [] 2 m__law_no_state (aCons (eVar 2) (aCons (eVar 5) (aNil)))))) (sRet [] (eC (.bl false))) (sNil)
def b_law_f7 : Sx := sIf (tNot (tTru (eCall [] 1 m__law_refused (aCons (eVar 6) (aNil))))) (sRet [] (eC (.bl false))) (sNil)
def b_law : Sx := sSeq (sSet [] 1 (eCall [] 1 m__law_pool (aCons (eVar 0) (aNil)))) (sSeq (sSet [] 2 (eCall [] 2 m__law_righting (aCons (eVar 1) (aCons (eC (.int 0)) (aNil))))) (sSeq (sIf (t2 dIsNot (eCall [] 1 m_check_righting (aCons (eVar 2) (aNil))) (eC .non)) (sRet [] (eC (.bl false))) (sNil)) (sSeq (sFor (iVal [] (eCall [] 1 m__law_states (aCons (e2 dIx (eVar 2) (eC (.int 0))) (aNil)))) (gNm [] 3) b_law_f2) (sSeq (sSet [] 3 (e2 dIx (eCall [] 1 m__law_states (aCons (e2 dIx (eVar 2) (eC (.int 0))) (aNil))) (e2 dMod (eB dInt1 (aCons (eCall [] 2 m__law_at (aCons (eVar 1) (aCons (eC (.int 20)) (aNil)))) (aNil))) (eB dLen (aCons (eCall [] 1 m__law_states (aCons (e2 dIx (eVar 2) (eC (.int 0))) (aNil))) (aNil)))))) (sSeq (sFor (iRg2 (aCons (e1 dNeg (eC (.int 1))) (aCons (eC (.int 13)) (aNil)))) (gNm [] 4) b_law_f4) (sSeq (sFor (iVal [] (eLst [] (aCons (eTup [] (aCons (eC (.str "gauge")) (aCons (eC (.bl true)) (aNil)))) (aCons (eTup [] (aCons (eC (.str "gauge")) (aCons (eC (.bl false)) (aNil)))) (aCons (eTup [] (aCons (eC (.str "file")) (aCons (eC (.bl false)) (aNil)))) (aCons (eTup [] (aCons (eC (.str "file")) (aNil))) (aCons (eLst [] (aCons (eC (.str "file")) (aCons (eC (.int 0)) (aNil)))) (aCons (eC .non) (aCons (eC (.str "file")) (aCons (eTup [] (aCons (eC (.str "file")) (aCons (eC (.int 0)) (aCons (eC (.int 0)) (aNil))))) (aNil))))))))))) (gNm [] 5) b_law_f5) (sSeq (sFor (iVal [] (eLst [] (aCons (eTup [] (aCons (eC (.int 0)) (aCons (e2 dAdd (e2 dIx (eVar 2) (eC (.int 0))) (eC (.int 1))) (aNil)))) (aCons (eTup [] (aCons (eC (.int 1)) (aCons (eC (.int 0)) (aNil)))) (aCons (eTup [] (aCons (e1 dNeg (eC (.int 1))) (aCons (eC (.int 0)) (aNil)))) (aCons (eTup [] (aCons (eC (.bl false)) (aCons (eC (.int 1)) (aNil)))) (aCons (eTup [] (aCons (eC (.int 0)) (aNil))) (aCons (eLst [] (aCons (eC (.int 0)) (aCons (eC (.int 0)) (aNil)))) (aCons (eC .non) (aNil)))))))))) (gNm [] 5) b_law_f6) (sSeq (sFor (iVal [] (eCall [] 1 m__law_bad_subjects (aCons (eVar 2) (aNil)))) (gNm [] 6) b_law_f7) (sRet [] (eC (.bl true)))))))))))
def m_law : Fn := runF 11 b_law
end K17

namespace K17
open PL PySem PySem.Spec PyProof.Rows L2
def top (i : Nat) : Stmt := PySem.Challenge.pw_typefoundry_k17_moves_and_outcomes.main.body.getD i (.Pass ⟨0, 0, 0, 0⟩)
abbrev st__law_pool : Stmt := top 24
abbrev st__law_pair : Stmt := top 27
abbrev st__law_at : Stmt := top 25
abbrev st__law_righting : Stmt := top 28
abbrev st__law_states : Stmt := top 29
abbrev st__law_bad_subjects : Stmt := top 35
abbrev st_is_tuple_of : Stmt := top 6
abbrev st_is_whole : Stmt := top 4
abbrev st_is_whole_in : Stmt := top 5
abbrev st_is_state : Stmt := top 12
abbrev st_is_rising : Stmt := top 7
abbrev st_is_file : Stmt := top 13
abbrev st_check_righting : Stmt := top 14
abbrev st__law_moves : Stmt := top 31
abbrev st__law_same : Stmt := top 26
abbrev st_check_state : Stmt := top 15
abbrev st_outcomes_at : Stmt := top 18
abbrev st_moves_at : Stmt := top 17
abbrev st_is_move_at : Stmt := top 19
abbrev st_outcomes : Stmt := top 22
abbrev st_moves : Stmt := top 21
abbrev st__law_no_state : Stmt := top 34
abbrev st__law_refused : Stmt := top 33
abbrev st_lies_within : Stmt := top 16
abbrev st_is_done : Stmt := top 20
abbrev st__law_done : Stmt := top 30
abbrev st__law_outcomes : Stmt := top 32
abbrev st_law : Stmt := top 36
structure Txt (K : PySem.W.Frag) (mg : Str → Option Value) : Prop where
  cat_BadRighting : Cat0 K mg "BadRighting" cat_BadRighting
  con_DEEPEST : Con0 K mg "DEEPEST" c_DEEPEST
  con_MOST_FILES : Con0 K mg "MOST_FILES" c_MOST_FILES
  con_MOST_GAUGES : Con0 K mg "MOST_GAUGES" c_MOST_GAUGES
  no_abs : mg "abs" = none
  no_all : mg "all" = none
  no_bool : mg "bool" = none
  no_enumerate : mg "enumerate" = none
  no_int : mg "int" = none
  no_isinstance : mg "isinstance" = none
  no_len : mg "len" = none
  no_list : mg "list" = none
  no_min : mg "min" = none
  no_range : mg "range" = none
  no_str : mg "str" = none
  no_tuple : mg "tuple" = none
  exc_BadRighting : Exc0 K mg "BadRighting"
  fn__law_pool : FnT K mg "_law_pool" st__law_pool ["script"]
  fn__law_pair : FnT K mg "_law_pair" st__law_pair ["a", "b", "top"]
  fn__law_at : FnT K mg "_law_at" st__law_at ["pool", "k"]
  fn__law_righting : FnT K mg "_law_righting" st__law_righting ["pool", "k"]
  fn__law_states : FnT K mg "_law_states" st__law_states ["top"]
  fn__law_bad_subjects : FnT K mg "_law_bad_subjects" st__law_bad_subjects ["subject"]
  fn_is_tuple_of : FnT K mg "is_tuple_of" st_is_tuple_of ["value", "low", "high"]
  fn_is_whole : FnT K mg "is_whole" st_is_whole ["value"]
  fn_is_whole_in : FnT K mg "is_whole_in" st_is_whole_in ["value", "low", "high"]
  fn_is_state : FnT K mg "is_state" st_is_state ["top", "value"]
  fn_is_rising : FnT K mg "is_rising" st_is_rising ["value"]
  fn_is_file : FnT K mg "is_file" st_is_file ["top", "value"]
  fn_check_righting : FnT K mg "check_righting" st_check_righting ["subject"]
  fn__law_moves : FnT K mg "_law_moves" st__law_moves ["subject", "state"]
  fn__law_same : FnT K mg "_law_same" st__law_same ["actual", "expected"]
  fn_check_state : FnT K mg "check_state" st_check_state ["subject", "state"]
  fn_outcomes_at : FnT K mg "outcomes_at" st_outcomes_at ["subject", "state", "move"]
  fn_moves_at : FnT K mg "moves_at" st_moves_at ["subject", "state"]
  fn_is_move_at : FnT K mg "is_move_at" st_is_move_at ["subject", "state", "value"]
  fn_outcomes : FnT K mg "outcomes" st_outcomes ["subject", "state", "move"]
  fn_moves : FnT K mg "moves" st_moves ["subject", "state"]
  fn__law_no_state : FnT K mg "_law_no_state" st__law_no_state ["subject", "state"]
  fn__law_refused : FnT K mg "_law_refused" st__law_refused ["subject"]
  fn_lies_within : FnT K mg "lies_within" st_lies_within ["goal", "state"]
  fn_is_done : FnT K mg "is_done" st_is_done ["subject", "state"]
  fn__law_done : FnT K mg "_law_done" st__law_done ["subject", "state"]
  fn__law_outcomes : FnT K mg "_law_outcomes" st__law_outcomes ["subject", "state", "move"]
  fn_law : FnT K mg "law" st_law ["script"]
section
variable {P : Program} {w : World} {K : PySem.W.Frag} {mg : Str → Option Value} {base : Heap}
theorem sc__law_pool : FnScope ["script", "pool", "cell", "rest", "k"] ["script"] (defScope st__law_pool) := ⟨rfl, rfl, rfl, by decide +kernel, rfl, by decide +kernel, by decide +kernel⟩
theorem nd__law_pool : (["script", "pool", "cell", "rest", "k"] : List Str).Nodup := sc__law_pool.nd
theorem kd__law_pool : (defScope st__law_pool).kind = .function := rfl
theorem lk__law_pool_abs : (defScope st__law_pool).names.lookup ("abs" : Str) = some .globalImplicit := by decide +kernel
theorem lk__law_pool_cell : (defScope st__law_pool).names.lookup ("cell" : Str) = some .local := by decide +kernel
theorem lk__law_pool_int : (defScope st__law_pool).names.lookup ("int" : Str) = some .globalImplicit := by decide +kernel
theorem lk__law_pool_k : (defScope st__law_pool).names.lookup ("k" : Str) = some .local := by decide +kernel
theorem lk__law_pool_pool : (defScope st__law_pool).names.lookup ("pool" : Str) = some .local := by decide +kernel
theorem lk__law_pool_range : (defScope st__law_pool).names.lookup ("range" : Str) = some .globalImplicit := by decide +kernel
theorem lk__law_pool_rest : (defScope st__law_pool).names.lookup ("rest" : Str) = some .local := by decide +kernel
theorem lk__law_pool_script : (defScope st__law_pool).names.lookup ("script" : Str) = some .local := by decide +kernel
theorem cal__law_pool (T : Txt K mg) : Cal0 P w K mg base 1 "_law_pool" 1 m__law_pool := by
  refine Cal0.of (k := 0) (m := 4) (f := b__law_pool) T.fn__law_pool sc__law_pool rfl rfl fun H0 => ?_
  exact (ss_cons (s_set ⟨nd__law_pool, rfl, Or.inl lk__law_pool_pool, Or.inl rfl⟩ (e_lst a_nil)) (ss_cons (s_for (i_val (e_sl (e_var (i := 0) rfl (Or.inl lk__law_pool_script)) p_no (p_so e_int))) (g_nm ⟨nd__law_pool, rfl, Or.inl lk__law_pool_cell, Or.inl rfl⟩) (ss_cons (s_set ⟨nd__law_pool, rfl, Or.inl lk__law_pool_rest, Or.inl rfl⟩ (e_cb (fun _ A => c_abs A) T.no_abs rfl (a_cons (e_cty (fun _ A => c_int A) T.no_int rfl (a_cons (e_var (i := 2) rfl (Or.inl lk__law_pool_cell)) a_nil) lk__law_pool_int) a_nil) lk__law_pool_abs)) (ss_one (s_for (i_rg1 T.no_range (a_cons e_int a_nil) lk__law_pool_range) (g_nm ⟨nd__law_pool, rfl, Or.inl lk__law_pool_k, Or.inl rfl⟩) (ss_one (s_if (t_w (w_or (t_cmp (fun _ A => o_gt A) (e_var (i := 3) rfl (Or.inl lk__law_pool_rest)) e_int) (w_or1 (t_cmp (fun _ A => o_eq A) (e_var (i := 4) rfl (Or.inl lk__law_pool_k)) e_int)))) (ss_cons (s_ex (e_ml (i := 1) PySem.F.slot_list_append PySem.F.type_list_append (fun _ A => m_append A) (a_cons (e_bin (fun _ A => o_mod A) (e_cty (fun _ A => c_int A) T.no_int rfl (a_cons (e_var (i := 3) rfl (Or.inl lk__law_pool_rest)) a_nil) lk__law_pool_int) e_int) a_nil) rfl (Or.inl lk__law_pool_pool))) (ss_one (s_set ⟨nd__law_pool, rfl, Or.inl lk__law_pool_rest, Or.inl rfl⟩ (e_bin (fun _ A => o_div A) (e_var (i := 3) rfl (Or.inl lk__law_pool_rest)) e_int)))) ss_nil)))))) (ss_one (s_ret (e_sl (e_var (i := 1) rfl (Or.inl lk__law_pool_pool)) p_no (p_so e_int))))))
theorem sc__law_pair : FnScope ["a", "b", "top", "low"] ["a", "b", "top"] (defScope st__law_pair) := ⟨rfl, rfl, rfl, by decide +kernel, rfl, by decide +kernel, by decide +kernel⟩
theorem nd__law_pair : (["a", "b", "top", "low"] : List Str).Nodup := sc__law_pair.nd
theorem kd__law_pair : (defScope st__law_pair).kind = .function := rfl
theorem lk__law_pair_a : (defScope st__law_pair).names.lookup ("a" : Str) = some .local := by decide +kernel
theorem lk__law_pair_b : (defScope st__law_pair).names.lookup ("b" : Str) = some .local := by decide +kernel
theorem lk__law_pair_int : (defScope st__law_pair).names.lookup ("int" : Str) = some .globalImplicit := by decide +kernel
theorem lk__law_pair_low : (defScope st__law_pair).names.lookup ("low" : Str) = some .local := by decide +kernel
theorem lk__law_pair_top : (defScope st__law_pair).names.lookup ("top" : Str) = some .local := by decide +kernel
theorem cal__law_pair (T : Txt K mg) : Cal0 P w K mg base 1 "_law_pair" 3 m__law_pair := by
  refine Cal0.of (k := 0) (m := 1) (f := b__law_pair) T.fn__law_pair sc__law_pair rfl rfl fun H0 => ?_
  exact (ss_cons (s_set ⟨nd__law_pair, rfl, Or.inl lk__law_pair_low, Or.inl rfl⟩ (e_bin (fun _ A => o_mod A) (e_cty (fun _ A => c_int A) T.no_int rfl (a_cons (e_var (i := 0) rfl (Or.inl lk__law_pair_a)) a_nil) lk__law_pair_int) (e_bin (fun _ A => o_add A) (e_var (i := 2) rfl (Or.inl lk__law_pair_top)) e_int))) (ss_one (s_ret (e_tup (a_cons (e_var (i := 3) rfl (Or.inl lk__law_pair_low)) (a_cons (e_bin (fun _ A => o_add A) (e_var (i := 3) rfl (Or.inl lk__law_pair_low)) (e_bin (fun _ A => o_mod A) (e_cty (fun _ A => c_int A) T.no_int rfl (a_cons (e_var (i := 1) rfl (Or.inl lk__law_pair_b)) a_nil) lk__law_pair_int) (e_bin (fun _ A => o_sub A) (e_bin (fun _ A => o_add A) (e_var (i := 2) rfl (Or.inl lk__law_pair_top)) e_int) (e_var (i := 3) rfl (Or.inl lk__law_pair_low))))) a_nil))))))
theorem sc__law_at : FnScope ["pool", "k", "seed"] ["pool", "k"] (defScope st__law_at) := ⟨rfl, rfl, rfl, by decide +kernel, rfl, by decide +kernel, by decide +kernel⟩
theorem nd__law_at : (["pool", "k", "seed"] : List Str).Nodup := sc__law_at.nd
theorem kd__law_at : (defScope st__law_at).kind = .function := rfl
theorem lk__law_at_int : (defScope st__law_at).names.lookup ("int" : Str) = some .globalImplicit := by decide +kernel
theorem lk__law_at_k : (defScope st__law_at).names.lookup ("k" : Str) = some .local := by decide +kernel
theorem lk__law_at_len : (defScope st__law_at).names.lookup ("len" : Str) = some .globalImplicit := by decide +kernel
theorem lk__law_at_pool : (defScope st__law_at).names.lookup ("pool" : Str) = some .local := by decide +kernel
theorem lk__law_at_seed : (defScope st__law_at).names.lookup ("seed" : Str) = some .local := by decide +kernel
theorem cal__law_at (T : Txt K mg) : Cal0 P w K mg base 1 "_law_at" 2 m__law_at := by
  refine Cal0.of (k := 0) (m := 1) (f := b__law_at) T.fn__law_at sc__law_at rfl rfl fun H0 => ?_
  exact (ss_cons (s_if (t_cmp (fun _ A => o_lt A) (e_var (i := 1) rfl (Or.inl lk__law_at_k)) (e_cb (fun _ A => c_len A) T.no_len rfl (a_cons (e_var (i := 0) rfl (Or.inl lk__law_at_pool)) a_nil) lk__law_at_len)) (ss_one (s_ret (e_ix (e_var (i := 0) rfl (Or.inl lk__law_at_pool)) (e_var (i := 1) rfl (Or.inl lk__law_at_k))))) ss_nil) (ss_cons (s_set ⟨nd__law_at, rfl, Or.inl lk__law_at_seed, Or.inl rfl⟩ (e_bin (fun _ A => o_add A) e_int (e_bin (fun _ A => o_mul A) e_int (e_var (i := 1) rfl (Or.inl lk__law_at_k))))) (ss_cons (s_if (t_cmp (fun _ A => o_gt A) (e_cb (fun _ A => c_len A) T.no_len rfl (a_cons (e_var (i := 0) rfl (Or.inl lk__law_at_pool)) a_nil) lk__law_at_len) e_int) (ss_one (s_set ⟨nd__law_at, rfl, Or.inl lk__law_at_seed, Or.inl rfl⟩ (e_bin (fun _ A => o_add A) (e_bin (fun _ A => o_add A) (e_var (i := 2) rfl (Or.inl lk__law_at_seed)) (e_bin (fun _ A => o_mul A) (e_bin (fun _ A => o_add A) (e_ix (e_var (i := 0) rfl (Or.inl lk__law_at_pool)) (e_bin (fun _ A => o_mod A) (e_cty (fun _ A => c_int A) T.no_int rfl (a_cons (e_var (i := 1) rfl (Or.inl lk__law_at_k)) a_nil) lk__law_at_int) (e_cb (fun _ A => c_len A) T.no_len rfl (a_cons (e_var (i := 0) rfl (Or.inl lk__law_at_pool)) a_nil) lk__law_at_len))) e_int) (e_bin (fun _ A => o_add A) (e_bin (fun _ A => o_mul A) (e_var (i := 1) rfl (Or.inl lk__law_at_k)) (e_var (i := 1) rfl (Or.inl lk__law_at_k))) e_int))) (e_cb (fun _ A => c_len A) T.no_len rfl (a_cons (e_var (i := 0) rfl (Or.inl lk__law_at_pool)) a_nil) lk__law_at_len)))) ss_nil) (ss_cons (s_set ⟨nd__law_at, rfl, Or.inl lk__law_at_seed, Or.inl rfl⟩ (e_bin (fun _ A => o_mod A) (e_cty (fun _ A => c_int A) T.no_int rfl (a_cons (e_bin (fun _ A => o_add A) (e_bin (fun _ A => o_mul A) (e_var (i := 2) rfl (Or.inl lk__law_at_seed)) e_int) e_int) a_nil) lk__law_at_int) e_int)) (ss_cons (s_set ⟨nd__law_at, rfl, Or.inl lk__law_at_seed, Or.inl rfl⟩ (e_bin (fun _ A => o_mod A) (e_cty (fun _ A => c_int A) T.no_int rfl (a_cons (e_bin (fun _ A => o_add A) (e_bin (fun _ A => o_mul A) (e_var (i := 2) rfl (Or.inl lk__law_at_seed)) (e_var (i := 2) rfl (Or.inl lk__law_at_seed))) (e_var (i := 1) rfl (Or.inl lk__law_at_k))) a_nil) lk__law_at_int) e_int)) (ss_cons (s_set ⟨nd__law_at, rfl, Or.inl lk__law_at_seed, Or.inl rfl⟩ (e_bin (fun _ A => o_mod A) (e_cty (fun _ A => c_int A) T.no_int rfl (a_cons (e_bin (fun _ A => o_add A) (e_bin (fun _ A => o_mul A) (e_var (i := 2) rfl (Or.inl lk__law_at_seed)) (e_var (i := 2) rfl (Or.inl lk__law_at_seed))) e_int) a_nil) lk__law_at_int) e_int)) (ss_one (s_ret (e_bin (fun _ A => o_mod A) (e_cty (fun _ A => c_int A) T.no_int rfl (a_cons (e_bin (fun _ A => o_div A) (e_var (i := 2) rfl (Or.inl lk__law_at_seed)) e_int) a_nil) lk__law_at_int) e_int)))))))))
theorem sc__law_righting : FnScope ["pool", "k", "pick", "top", "bits", "gauges", "t", "files", "j", "start", "goal", "draw", "cut", "slip"] ["pool", "k"] (defScope st__law_righting) := ⟨rfl, rfl, rfl, by decide +kernel, rfl, by decide +kernel, by decide +kernel⟩
theorem nd__law_righting : (["pool", "k", "pick", "top", "bits", "gauges", "t", "files", "j", "start", "goal", "draw", "cut", "slip"] : List Str).Nodup := sc__law_righting.nd
theorem kd__law_righting : (defScope st__law_righting).kind = .function := rfl
theorem lk__law_righting__law_at : (defScope st__law_righting).names.lookup ("_law_at" : Str) = some .globalImplicit := by decide +kernel
theorem lk__law_righting__law_pair : (defScope st__law_righting).names.lookup ("_law_pair" : Str) = some .globalImplicit := by decide +kernel
theorem lk__law_righting_bits : (defScope st__law_righting).names.lookup ("bits" : Str) = some .local := by decide +kernel
theorem lk__law_righting_cut : (defScope st__law_righting).names.lookup ("cut" : Str) = some .local := by decide +kernel
theorem lk__law_righting_draw : (defScope st__law_righting).names.lookup ("draw" : Str) = some .local := by decide +kernel
theorem lk__law_righting_files : (defScope st__law_righting).names.lookup ("files" : Str) = some .local := by decide +kernel
theorem lk__law_righting_gauges : (defScope st__law_righting).names.lookup ("gauges" : Str) = some .local := by decide +kernel
theorem lk__law_righting_goal : (defScope st__law_righting).names.lookup ("goal" : Str) = some .local := by decide +kernel
theorem lk__law_righting_int : (defScope st__law_righting).names.lookup ("int" : Str) = some .globalImplicit := by decide +kernel
theorem lk__law_righting_j : (defScope st__law_righting).names.lookup ("j" : Str) = some .local := by decide +kernel
theorem lk__law_righting_k : (defScope st__law_righting).names.lookup ("k" : Str) = some .local := by decide +kernel
theorem lk__law_righting_len : (defScope st__law_righting).names.lookup ("len" : Str) = some .globalImplicit := by decide +kernel
theorem lk__law_righting_min : (defScope st__law_righting).names.lookup ("min" : Str) = some .globalImplicit := by decide +kernel
theorem lk__law_righting_pick : (defScope st__law_righting).names.lookup ("pick" : Str) = some .local := by decide +kernel
theorem lk__law_righting_pool : (defScope st__law_righting).names.lookup ("pool" : Str) = some .local := by decide +kernel
theorem lk__law_righting_range : (defScope st__law_righting).names.lookup ("range" : Str) = some .globalImplicit := by decide +kernel
theorem lk__law_righting_slip : (defScope st__law_righting).names.lookup ("slip" : Str) = some .local := by decide +kernel
theorem lk__law_righting_start : (defScope st__law_righting).names.lookup ("start" : Str) = some .local := by decide +kernel
theorem lk__law_righting_t : (defScope st__law_righting).names.lookup ("t" : Str) = some .local := by decide +kernel
theorem lk__law_righting_top : (defScope st__law_righting).names.lookup ("top" : Str) = some .local := by decide +kernel
theorem lk__law_righting_tuple : (defScope st__law_righting).names.lookup ("tuple" : Str) = some .globalImplicit := by decide +kernel
theorem cal__law_righting (T : Txt K mg) : Cal0 P w K mg base 2 "_law_righting" 2 m__law_righting := by
  refine Cal0.of (k := 1) (m := 12) (f := b__law_righting) T.fn__law_righting sc__law_righting rfl rfl fun H0 => ?_
  have h__law_pair : Cal ⟨P, w, K, mg, base, ["pool", "k", "pick", "top", "bits", "gauges", "t", "files", "j", "start", "goal", "draw", "cut", "slip"], defScope st__law_righting, fun _ => true, 1, H0, []⟩ "_law_pair" 3 m__law_pair := (cal__law_pair T).cal (by decide)
  have h__law_at : Cal ⟨P, w, K, mg, base, ["pool", "k", "pick", "top", "bits", "gauges", "t", "files", "j", "start", "goal", "draw", "cut", "slip"], defScope st__law_righting, fun _ => true, 1, H0, []⟩ "_law_at" 2 m__law_at := (cal__law_at T).cal (by decide)
  exact (ss_cons (s_set ⟨nd__law_righting, rfl, Or.inl lk__law_righting_pick, Or.inl rfl⟩ (e_cty (fun _ A => c_int A) T.no_int rfl (a_cons (e_call h__law_at (a_cons (e_var (i := 0) rfl (Or.inl lk__law_righting_pool)) (a_cons (e_var (i := 1) rfl (Or.inl lk__law_righting_k)) a_nil)) lk__law_righting__law_at) a_nil) lk__law_righting_int)) (ss_cons (s_set ⟨nd__law_righting, rfl, Or.inl lk__law_righting_top, Or.inl rfl⟩ (e_bin (fun _ A => o_add A) e_int (e_bin (fun _ A => o_mod A) (e_cty (fun _ A => c_int A) T.no_int rfl (a_cons (e_var (i := 2) rfl (Or.inl lk__law_righting_pick)) a_nil) lk__law_righting_int) e_int))) (ss_cons (s_if (t_cmp (fun _ A => o_eq A) (e_bin (fun _ A => o_mod A) (e_cty (fun _ A => c_int A) T.no_int rfl (a_cons (e_bin (fun _ A => o_div A) (e_var (i := 2) rfl (Or.inl lk__law_righting_pick)) e_int) a_nil) lk__law_righting_int) e_int) e_int) (ss_one (s_set ⟨nd__law_righting, rfl, Or.inl lk__law_righting_top, Or.inl rfl⟩ (e_bin (fun _ A => o_add A) e_int (e_bin (fun _ A => o_mod A) (e_cty (fun _ A => c_int A) T.no_int rfl (a_cons (e_bin (fun _ A => o_div A) (e_var (i := 2) rfl (Or.inl lk__law_righting_pick)) e_int) a_nil) lk__law_righting_int) e_int)))) ss_nil) (ss_cons (s_set ⟨nd__law_righting, rfl, Or.inl lk__law_righting_bits, Or.inl rfl⟩ (e_bin (fun _ A => o_add A) (e_bin (fun _ A => o_mul A) (e_cty (fun _ A => c_int A) T.no_int rfl (a_cons (e_call h__law_at (a_cons (e_var (i := 0) rfl (Or.inl lk__law_righting_pool)) (a_cons (e_bin (fun _ A => o_add A) (e_var (i := 1) rfl (Or.inl lk__law_righting_k)) e_int) a_nil)) lk__law_righting__law_at) a_nil) lk__law_righting_int) e_int) (e_cty (fun _ A => c_int A) T.no_int rfl (a_cons (e_bin (fun _ A => o_div A) (e_var (i := 2) rfl (Or.inl lk__law_righting_pick)) e_int) a_nil) lk__law_righting_int))) (ss_cons (s_set ⟨nd__law_righting, rfl, Or.inl lk__law_righting_gauges, Or.inl rfl⟩ (e_lst a_nil)) (ss_cons (s_for (i_rg1 T.no_range (a_cons (e_var (i := 3) rfl (Or.inl lk__law_righting_top)) a_nil) lk__law_righting_range) (g_nm ⟨nd__law_righting, rfl, Or.inl lk__law_righting_t, Or.inl rfl⟩) (ss_cons (s_if (t_w (w_and (t_cmp (fun _ A => o_eq A) (e_bin (fun _ A => o_mod A) (e_cty (fun _ A => c_int A) T.no_int rfl (a_cons (e_var (i := 4) rfl (Or.inl lk__law_righting_bits)) a_nil) lk__law_righting_int) e_int) e_int) (w_and1 (t_cmp (fun _ A => o_lt A) (e_cb (fun _ A => c_len A) T.no_len rfl (a_cons (e_var (i := 5) rfl (Or.inl lk__law_righting_gauges)) a_nil) lk__law_righting_len) e_int)))) (ss_one (s_ex (e_ml (i := 5) PySem.F.slot_list_append PySem.F.type_list_append (fun _ A => m_append A) (a_cons (e_var (i := 6) rfl (Or.inl lk__law_righting_t)) a_nil) rfl (Or.inl lk__law_righting_gauges)))) ss_nil) (ss_one (s_set ⟨nd__law_righting, rfl, Or.inl lk__law_righting_bits, Or.inl rfl⟩ (e_bin (fun _ A => o_div A) (e_var (i := 4) rfl (Or.inl lk__law_righting_bits)) e_int))))) (ss_cons (s_set ⟨nd__law_righting, rfl, Or.inl lk__law_righting_files, Or.inl rfl⟩ (e_lst a_nil)) (ss_cons (s_for (i_rg1 T.no_range (a_cons (e_bin (fun _ A => o_mod A) (e_cty (fun _ A => c_int A) T.no_int rfl (a_cons (e_call h__law_at (a_cons (e_var (i := 0) rfl (Or.inl lk__law_righting_pool)) (a_cons (e_bin (fun _ A => o_add A) (e_var (i := 1) rfl (Or.inl lk__law_righting_k)) e_int) a_nil)) lk__law_righting__law_at) a_nil) lk__law_righting_int) e_int) a_nil) lk__law_righting_range) (g_nm ⟨nd__law_righting, rfl, Or.inl lk__law_righting_j, Or.inl rfl⟩) (ss_cons (s_set ⟨nd__law_righting, rfl, Or.inl lk__law_righting_draw, Or.inl rfl⟩ (e_cty (fun _ A => c_int A) T.no_int rfl (a_cons (e_call h__law_at (a_cons (e_var (i := 0) rfl (Or.inl lk__law_righting_pool)) (a_cons (e_bin (fun _ A => o_add A) (e_bin (fun _ A => o_add A) (e_var (i := 1) rfl (Or.inl lk__law_righting_k)) e_int) (e_var (i := 8) rfl (Or.inl lk__law_righting_j))) a_nil)) lk__law_righting__law_at) a_nil) lk__law_righting_int)) (ss_cons (s_set ⟨nd__law_righting, rfl, Or.inl lk__law_righting_cut, Or.inl rfl⟩ (e_bin (fun _ A => o_add A) e_int (e_bin (fun _ A => o_mod A) (e_cty (fun _ A => c_int A) T.no_int rfl (a_cons (e_bin (fun _ A => o_div A) (e_var (i := 11) rfl (Or.inl lk__law_righting_draw)) e_int) a_nil) lk__law_righting_int) (e_var (i := 3) rfl (Or.inl lk__law_righting_top))))) (ss_cons (s_set ⟨nd__law_righting, rfl, Or.inl lk__law_righting_slip, Or.inl rfl⟩ (e_ix (e_lst (a_cons e_int (a_cons e_int (a_cons e_int a_nil)))) (e_bin (fun _ A => o_mod A) (e_cty (fun _ A => c_int A) T.no_int rfl (a_cons (e_var (i := 11) rfl (Or.inl lk__law_righting_draw)) a_nil) lk__law_righting_int) e_int))) (ss_cons (s_if (t_cmp (fun _ A => o_eq A) (e_bin (fun _ A => o_mod A) (e_cty (fun _ A => c_int A) T.no_int rfl (a_cons (e_bin (fun _ A => o_div A) (e_var (i := 11) rfl (Or.inl lk__law_righting_draw)) e_int) a_nil) lk__law_righting_int) e_int) e_int) (ss_one (s_set ⟨nd__law_righting, rfl, Or.inl lk__law_righting_slip, Or.inl rfl⟩ (e_bin (fun _ A => o_mod A) (e_cty (fun _ A => c_int A) T.no_int rfl (a_cons (e_bin (fun _ A => o_div A) (e_var (i := 11) rfl (Or.inl lk__law_righting_draw)) e_int) a_nil) lk__law_righting_int) (e_bin (fun _ A => o_add A) (e_var (i := 12) rfl (Or.inl lk__law_righting_cut)) e_int)))) ss_nil) (ss_one (s_ex (e_ml (i := 7) PySem.F.slot_list_append PySem.F.type_list_append (fun _ A => m_append A) (a_cons (e_tup (a_cons (e_var (i := 12) rfl (Or.inl lk__law_righting_cut)) (a_cons (e_cb (fun _ A => c_min A) T.no_min rfl (a_cons (e_var (i := 13) rfl (Or.inl lk__law_righting_slip)) (a_cons (e_var (i := 12) rfl (Or.inl lk__law_righting_cut)) a_nil)) lk__law_righting_min) a_nil))) a_nil) rfl (Or.inl lk__law_righting_files))))))))) (ss_cons (s_set ⟨nd__law_righting, rfl, Or.inl lk__law_righting_start, Or.inl rfl⟩ (e_call h__law_pair (a_cons (e_call h__law_at (a_cons (e_var (i := 0) rfl (Or.inl lk__law_righting_pool)) (a_cons (e_bin (fun _ A => o_add A) (e_var (i := 1) rfl (Or.inl lk__law_righting_k)) e_int) a_nil)) lk__law_righting__law_at) (a_cons (e_call h__law_at (a_cons (e_var (i := 0) rfl (Or.inl lk__law_righting_pool)) (a_cons (e_bin (fun _ A => o_add A) (e_var (i := 1) rfl (Or.inl lk__law_righting_k)) e_int) a_nil)) lk__law_righting__law_at) (a_cons (e_var (i := 3) rfl (Or.inl lk__law_righting_top)) a_nil))) lk__law_righting__law_pair)) (ss_cons (s_set ⟨nd__law_righting, rfl, Or.inl lk__law_righting_goal, Or.inl rfl⟩ (e_call h__law_pair (a_cons (e_call h__law_at (a_cons (e_var (i := 0) rfl (Or.inl lk__law_righting_pool)) (a_cons (e_bin (fun _ A => o_add A) (e_var (i := 1) rfl (Or.inl lk__law_righting_k)) e_int) a_nil)) lk__law_righting__law_at) (a_cons (e_call h__law_at (a_cons (e_var (i := 0) rfl (Or.inl lk__law_righting_pool)) (a_cons (e_bin (fun _ A => o_add A) (e_var (i := 1) rfl (Or.inl lk__law_righting_k)) e_int) a_nil)) lk__law_righting__law_at) (a_cons (e_var (i := 3) rfl (Or.inl lk__law_righting_top)) a_nil))) lk__law_righting__law_pair)) (ss_cons (s_if (t_cmp (fun _ A => o_gt A) (e_bin (fun _ A => o_mod A) (e_cty (fun _ A => c_int A) T.no_int rfl (a_cons (e_call h__law_at (a_cons (e_var (i := 0) rfl (Or.inl lk__law_righting_pool)) (a_cons (e_bin (fun _ A => o_add A) (e_var (i := 1) rfl (Or.inl lk__law_righting_k)) e_int) a_nil)) lk__law_righting__law_at) a_nil) lk__law_righting_int) e_int) e_int) (ss_one (s_set ⟨nd__law_righting, rfl, Or.inl lk__law_righting_goal, Or.inl rfl⟩ (e_tup (a_cons e_int (a_cons (e_bin (fun _ A => o_mod A) (e_bin (fun _ A => o_mod A) (e_cty (fun _ A => c_int A) T.no_int rfl (a_cons (e_call h__law_at (a_cons (e_var (i := 0) rfl (Or.inl lk__law_righting_pool)) (a_cons (e_bin (fun _ A => o_add A) (e_var (i := 1) rfl (Or.inl lk__law_righting_k)) e_int) a_nil)) lk__law_righting__law_at) a_nil) lk__law_righting_int) e_int) (e_bin (fun _ A => o_add A) (e_var (i := 3) rfl (Or.inl lk__law_righting_top)) e_int)) a_nil))))) ss_nil) (ss_one (s_ret (e_tup (a_cons (e_var (i := 3) rfl (Or.inl lk__law_righting_top)) (a_cons (e_var (i := 9) rfl (Or.inl lk__law_righting_start)) (a_cons (e_var (i := 10) rfl (Or.inl lk__law_righting_goal)) (a_cons (e_cty (fun _ A => c_tup A) T.no_tuple rfl (a_cons (e_var (i := 5) rfl (Or.inl lk__law_righting_gauges)) a_nil) lk__law_righting_tuple) (a_cons (e_cty (fun _ A => c_tup A) T.no_tuple rfl (a_cons (e_var (i := 7) rfl (Or.inl lk__law_righting_files)) a_nil) lk__law_righting_tuple) a_nil)))))))))))))))))))
theorem sc__law_states : FnScope ["top", "found", "low", "high"] ["top"] (defScope st__law_states) := ⟨rfl, rfl, rfl, by decide +kernel, rfl, by decide +kernel, by decide +kernel⟩
theorem nd__law_states : (["top", "found", "low", "high"] : List Str).Nodup := sc__law_states.nd
theorem kd__law_states : (defScope st__law_states).kind = .function := rfl
theorem lk__law_states_found : (defScope st__law_states).names.lookup ("found" : Str) = some .local := by decide +kernel
theorem lk__law_states_high : (defScope st__law_states).names.lookup ("high" : Str) = some .local := by decide +kernel
theorem lk__law_states_low : (defScope st__law_states).names.lookup ("low" : Str) = some .local := by decide +kernel
theorem lk__law_states_range : (defScope st__law_states).names.lookup ("range" : Str) = some .globalImplicit := by decide +kernel
theorem lk__law_states_top : (defScope st__law_states).names.lookup ("top" : Str) = some .local := by decide +kernel
theorem cal__law_states (T : Txt K mg) : Cal0 P w K mg base 1 "_law_states" 1 m__law_states := by
  refine Cal0.of (k := 0) (m := 3) (f := b__law_states) T.fn__law_states sc__law_states rfl rfl fun H0 => ?_
  exact (ss_cons (s_set ⟨nd__law_states, rfl, Or.inl lk__law_states_found, Or.inl rfl⟩ (e_lst a_nil)) (ss_cons (s_for (i_rg1 T.no_range (a_cons (e_bin (fun _ A => o_add A) (e_var (i := 0) rfl (Or.inl lk__law_states_top)) e_int) a_nil) lk__law_states_range) (g_nm ⟨nd__law_states, rfl, Or.inl lk__law_states_low, Or.inl rfl⟩) (ss_one (s_for (i_rg2 T.no_range (a_cons (e_var (i := 2) rfl (Or.inl lk__law_states_low)) (a_cons (e_bin (fun _ A => o_add A) (e_var (i := 0) rfl (Or.inl lk__law_states_top)) e_int) a_nil)) lk__law_states_range) (g_nm ⟨nd__law_states, rfl, Or.inl lk__law_states_high, Or.inl rfl⟩) (ss_one (s_ex (e_ml (i := 1) PySem.F.slot_list_append PySem.F.type_list_append (fun _ A => m_append A) (a_cons (e_tup (a_cons (e_var (i := 2) rfl (Or.inl lk__law_states_low)) (a_cons (e_var (i := 3) rfl (Or.inl lk__law_states_high)) a_nil))) a_nil) rfl (Or.inl lk__law_states_found))))))) (ss_one (s_ret (e_var (i := 1) rfl (Or.inl lk__law_states_found))))))
theorem sc__law_bad_subjects : FnScope ["subject", "top", "found", "pair", "gauges", "files"] ["subject"] (defScope st__law_bad_subjects) := ⟨rfl, rfl, rfl, by decide +kernel, rfl, by decide +kernel, by decide +kernel⟩
theorem nd__law_bad_subjects : (["subject", "top", "found", "pair", "gauges", "files"] : List Str).Nodup := sc__law_bad_subjects.nd
theorem kd__law_bad_subjects : (defScope st__law_bad_subjects).kind = .function := rfl
theorem lk__law_bad_subjects_files : (defScope st__law_bad_subjects).names.lookup ("files" : Str) = some .local := by decide +kernel
theorem lk__law_bad_subjects_found : (defScope st__law_bad_subjects).names.lookup ("found" : Str) = some .local := by decide +kernel
theorem lk__law_bad_subjects_gauges : (defScope st__law_bad_subjects).names.lookup ("gauges" : Str) = some .local := by decide +kernel
theorem lk__law_bad_subjects_list : (defScope st__law_bad_subjects).names.lookup ("list" : Str) = some .globalImplicit := by decide +kernel
theorem lk__law_bad_subjects_pair : (defScope st__law_bad_subjects).names.lookup ("pair" : Str) = some .local := by decide +kernel
theorem lk__law_bad_subjects_subject : (defScope st__law_bad_subjects).names.lookup ("subject" : Str) = some .local := by decide +kernel
theorem lk__law_bad_subjects_top : (defScope st__law_bad_subjects).names.lookup ("top" : Str) = some .local := by decide +kernel
theorem cal__law_bad_subjects (T : Txt K mg) : Cal0 P w K mg base 1 "_law_bad_subjects" 1 m__law_bad_subjects := by
  refine Cal0.of (k := 0) (m := 5) (f := b__law_bad_subjects) T.fn__law_bad_subjects sc__law_bad_subjects rfl rfl fun H0 => ?_
  exact (ss_cons (s_set ⟨nd__law_bad_subjects, rfl, Or.inl lk__law_bad_subjects_top, Or.inl rfl⟩ (e_ix (e_var (i := 0) rfl (Or.inl lk__law_bad_subjects_subject)) e_int)) (ss_cons (s_set ⟨nd__law_bad_subjects, rfl, Or.inl lk__law_bad_subjects_found, Or.inl rfl⟩ (e_lst (a_cons (e_bin (fun _ A => o_add A) (e_tup (a_cons e_int a_nil)) (e_sl (e_var (i := 0) rfl (Or.inl lk__law_bad_subjects_subject)) (p_so e_int) p_no)) (a_cons (e_bin (fun _ A => o_add A) (e_tup (a_cons e_int a_nil)) (e_sl (e_var (i := 0) rfl (Or.inl lk__law_bad_subjects_subject)) (p_so e_int) p_no)) (a_cons (e_bin (fun _ A => o_add A) (e_tup (a_cons e_bl a_nil)) (e_sl (e_var (i := 0) rfl (Or.inl lk__law_bad_subjects_subject)) (p_so e_int) p_no)) (a_cons (e_sl (e_var (i := 0) rfl (Or.inl lk__law_bad_subjects_subject)) p_no (p_so e_int)) (a_cons (e_cty (fun _ A => c_list A) T.no_list rfl (a_cons (e_var (i := 0) rfl (Or.inl lk__law_bad_subjects_subject)) a_nil) lk__law_bad_subjects_list) a_nil))))))) (ss_cons (s_for (i_val (e_lst (a_cons (e_tup (a_cons e_int (a_cons (e_bin (fun _ A => o_add A) (e_var (i := 1) rfl (Or.inl lk__law_bad_subjects_top)) e_int) a_nil))) (a_cons (e_tup (a_cons e_int (a_cons e_int a_nil))) (a_cons (e_tup (a_cons (e_un (fun _ A => o_neg A) e_int) (a_cons e_int a_nil))) (a_cons (e_tup (a_cons e_bl (a_cons e_int a_nil))) (a_cons (e_tup (a_cons e_int a_nil)) (a_cons e_non a_nil)))))))) (g_nm ⟨nd__law_bad_subjects, rfl, Or.inl lk__law_bad_subjects_pair, Or.inl rfl⟩) (ss_cons (s_ex (e_ml (i := 2) PySem.F.slot_list_append PySem.F.type_list_append (fun _ A => m_append A) (a_cons (e_bin (fun _ A => o_add A) (e_tup (a_cons (e_var (i := 1) rfl (Or.inl lk__law_bad_subjects_top)) (a_cons (e_var (i := 3) rfl (Or.inl lk__law_bad_subjects_pair)) a_nil))) (e_sl (e_var (i := 0) rfl (Or.inl lk__law_bad_subjects_subject)) (p_so e_int) p_no)) a_nil) rfl (Or.inl lk__law_bad_subjects_found))) (ss_one (s_ex (e_ml (i := 2) PySem.F.slot_list_append PySem.F.type_list_append (fun _ A => m_append A) (a_cons (e_bin (fun _ A => o_add A) (e_tup (a_cons (e_var (i := 1) rfl (Or.inl lk__law_bad_subjects_top)) (a_cons (e_ix (e_var (i := 0) rfl (Or.inl lk__law_bad_subjects_subject)) e_int) (a_cons (e_var (i := 3) rfl (Or.inl lk__law_bad_subjects_pair)) a_nil)))) (e_sl (e_var (i := 0) rfl (Or.inl lk__law_bad_subjects_subject)) (p_so e_int) p_no)) a_nil) rfl (Or.inl lk__law_bad_subjects_found)))))) (ss_cons (s_for (i_val (e_lst (a_cons (e_tup (a_cons (e_var (i := 1) rfl (Or.inl lk__law_bad_subjects_top)) a_nil)) (a_cons (e_tup (a_cons (e_un (fun _ A => o_neg A) e_int) a_nil)) (a_cons (e_tup (a_cons e_int (a_cons e_int a_nil))) (a_cons (e_tup (a_cons e_int (a_cons e_int a_nil))) (a_cons (e_tup (a_cons e_bl a_nil)) (a_cons (e_cty (fun _ A => c_list A) T.no_list rfl (a_cons (e_ix (e_var (i := 0) rfl (Or.inl lk__law_bad_subjects_subject)) e_int) a_nil) lk__law_bad_subjects_list) (a_cons (e_tup (a_cons e_int (a_cons e_int (a_cons e_int (a_cons e_int (a_cons e_int (a_cons e_int (a_cons e_int a_nil)))))))) a_nil))))))))) (g_nm ⟨nd__law_bad_subjects, rfl, Or.inl lk__law_bad_subjects_gauges, Or.inl rfl⟩) (ss_one (s_ex (e_ml (i := 2) PySem.F.slot_list_append PySem.F.type_list_append (fun _ A => m_append A) (a_cons (e_tup (a_cons (e_var (i := 1) rfl (Or.inl lk__law_bad_subjects_top)) (a_cons (e_ix (e_var (i := 0) rfl (Or.inl lk__law_bad_subjects_subject)) e_int) (a_cons (e_ix (e_var (i := 0) rfl (Or.inl lk__law_bad_subjects_subject)) e_int) (a_cons (e_var (i := 4) rfl (Or.inl lk__law_bad_subjects_gauges)) (a_cons (e_ix (e_var (i := 0) rfl (Or.inl lk__law_bad_subjects_subject)) e_int) a_nil)))))) a_nil) rfl (Or.inl lk__law_bad_subjects_found))))) (ss_cons (s_for (i_val (e_lst (a_cons (e_tup (a_cons (e_tup (a_cons e_int (a_cons e_int a_nil))) a_nil)) (a_cons (e_tup (a_cons (e_tup (a_cons (e_bin (fun _ A => o_add A) (e_var (i := 1) rfl (Or.inl lk__law_bad_subjects_top)) e_int) (a_cons e_int a_nil))) a_nil)) (a_cons (e_tup (a_cons (e_tup (a_cons e_int (a_cons e_int a_nil))) a_nil)) (a_cons (e_tup (a_cons (e_tup (a_cons e_int (a_cons (e_un (fun _ A => o_neg A) e_int) a_nil))) a_nil)) (a_cons (e_tup (a_cons (e_tup (a_cons e_int a_nil)) a_nil)) (a_cons (e_bin (fun _ A => o_mul A) (e_tup (a_cons (e_tup (a_cons e_int (a_cons e_int a_nil))) a_nil)) e_int) (a_cons e_non (a_cons (e_tup (a_cons (e_tup (a_cons e_int (a_cons e_bl a_nil))) a_nil)) a_nil)))))))))) (g_nm ⟨nd__law_bad_subjects, rfl, Or.inl lk__law_bad_subjects_files, Or.inl rfl⟩) (ss_one (s_ex (e_ml (i := 2) PySem.F.slot_list_append PySem.F.type_list_append (fun _ A => m_append A) (a_cons (e_tup (a_cons (e_var (i := 1) rfl (Or.inl lk__law_bad_subjects_top)) (a_cons (e_ix (e_var (i := 0) rfl (Or.inl lk__law_bad_subjects_subject)) e_int) (a_cons (e_ix (e_var (i := 0) rfl (Or.inl lk__law_bad_subjects_subject)) e_int) (a_cons (e_ix (e_var (i := 0) rfl (Or.inl lk__law_bad_subjects_subject)) e_int) (a_cons (e_var (i := 5) rfl (Or.inl lk__law_bad_subjects_files)) a_nil)))))) a_nil) rfl (Or.inl lk__law_bad_subjects_found))))) (ss_one (s_ret (e_var (i := 2) rfl (Or.inl lk__law_bad_subjects_found)))))))))
theorem sc_is_tuple_of : FnScope ["value", "low", "high"] ["value", "low", "high"] (defScope st_is_tuple_of) := ⟨rfl, rfl, rfl, by decide +kernel, rfl, by decide +kernel, by decide +kernel⟩
theorem nd_is_tuple_of : (["value", "low", "high"] : List Str).Nodup := sc_is_tuple_of.nd
theorem kd_is_tuple_of : (defScope st_is_tuple_of).kind = .function := rfl
theorem lk_is_tuple_of_high : (defScope st_is_tuple_of).names.lookup ("high" : Str) = some .local := by decide +kernel
theorem lk_is_tuple_of_isinstance : (defScope st_is_tuple_of).names.lookup ("isinstance" : Str) = some .globalImplicit := by decide +kernel
theorem lk_is_tuple_of_len : (defScope st_is_tuple_of).names.lookup ("len" : Str) = some .globalImplicit := by decide +kernel
theorem lk_is_tuple_of_low : (defScope st_is_tuple_of).names.lookup ("low" : Str) = some .local := by decide +kernel
theorem lk_is_tuple_of_tuple : (defScope st_is_tuple_of).names.lookup ("tuple" : Str) = some .globalImplicit := by decide +kernel
theorem lk_is_tuple_of_value : (defScope st_is_tuple_of).names.lookup ("value" : Str) = some .local := by decide +kernel
theorem cal_is_tuple_of (T : Txt K mg) : Cal0 P w K mg base 1 "is_tuple_of" 3 m_is_tuple_of := by
  refine Cal0.of (k := 0) (m := 0) (f := b_is_tuple_of) T.fn_is_tuple_of sc_is_tuple_of rfl rfl fun H0 => ?_
  exact (ss_one (s_ret (e_and (e_isi .tuple rfl T.no_isinstance T.no_tuple (e_var (i := 0) rfl (Or.inl lk_is_tuple_of_value)) lk_is_tuple_of_isinstance lk_is_tuple_of_tuple) (e_one (e_chain (fun _ A => o_le A) (fun _ A => o_le A) (e_var (i := 1) rfl (Or.inl lk_is_tuple_of_low)) (e_cb (fun _ A => c_len A) T.no_len rfl (a_cons (e_var (i := 0) rfl (Or.inl lk_is_tuple_of_value)) a_nil) lk_is_tuple_of_len) (e_var (i := 2) rfl (Or.inl lk_is_tuple_of_high)))))))
theorem sc_is_whole : FnScope ["value"] ["value"] (defScope st_is_whole) := ⟨rfl, rfl, rfl, by decide +kernel, rfl, by decide +kernel, by decide +kernel⟩
theorem nd_is_whole : (["value"] : List Str).Nodup := sc_is_whole.nd
theorem kd_is_whole : (defScope st_is_whole).kind = .function := rfl
theorem lk_is_whole_bool : (defScope st_is_whole).names.lookup ("bool" : Str) = some .globalImplicit := by decide +kernel
theorem lk_is_whole_int : (defScope st_is_whole).names.lookup ("int" : Str) = some .globalImplicit := by decide +kernel
theorem lk_is_whole_isinstance : (defScope st_is_whole).names.lookup ("isinstance" : Str) = some .globalImplicit := by decide +kernel
theorem lk_is_whole_value : (defScope st_is_whole).names.lookup ("value" : Str) = some .local := by decide +kernel
theorem cal_is_whole (T : Txt K mg) : Cal0 P w K mg base 1 "is_whole" 1 m_is_whole := by
  refine Cal0.of (k := 0) (m := 0) (f := b_is_whole) T.fn_is_whole sc_is_whole rfl rfl fun H0 => ?_
  exact (ss_one (s_ret (e_and (e_isi .int rfl T.no_isinstance T.no_int (e_var (i := 0) rfl (Or.inl lk_is_whole_value)) lk_is_whole_isinstance lk_is_whole_int) (e_one (e_not (e_isi .bool rfl T.no_isinstance T.no_bool (e_var (i := 0) rfl (Or.inl lk_is_whole_value)) lk_is_whole_isinstance lk_is_whole_bool))))))
theorem sc_is_whole_in : FnScope ["value", "low", "high"] ["value", "low", "high"] (defScope st_is_whole_in) := ⟨rfl, rfl, rfl, by decide +kernel, rfl, by decide +kernel, by decide +kernel⟩
theorem nd_is_whole_in : (["value", "low", "high"] : List Str).Nodup := sc_is_whole_in.nd
theorem kd_is_whole_in : (defScope st_is_whole_in).kind = .function := rfl
theorem lk_is_whole_in_high : (defScope st_is_whole_in).names.lookup ("high" : Str) = some .local := by decide +kernel
theorem lk_is_whole_in_is_whole : (defScope st_is_whole_in).names.lookup ("is_whole" : Str) = some .globalImplicit := by decide +kernel
theorem lk_is_whole_in_low : (defScope st_is_whole_in).names.lookup ("low" : Str) = some .local := by decide +kernel
theorem lk_is_whole_in_value : (defScope st_is_whole_in).names.lookup ("value" : Str) = some .local := by decide +kernel
theorem cal_is_whole_in (T : Txt K mg) : Cal0 P w K mg base 2 "is_whole_in" 3 m_is_whole_in := by
  refine Cal0.of (k := 1) (m := 0) (f := b_is_whole_in) T.fn_is_whole_in sc_is_whole_in rfl rfl fun H0 => ?_
  have h_is_whole : Cal ⟨P, w, K, mg, base, ["value", "low", "high"], defScope st_is_whole_in, fun _ => true, 1, H0, []⟩ "is_whole" 1 m_is_whole := (cal_is_whole T).cal (by decide)
  exact (ss_one (s_ret (e_and (e_call h_is_whole (a_cons (e_var (i := 0) rfl (Or.inl lk_is_whole_in_value)) a_nil) lk_is_whole_in_is_whole) (e_one (e_chain (fun _ A => o_le A) (fun _ A => o_le A) (e_var (i := 1) rfl (Or.inl lk_is_whole_in_low)) (e_var (i := 0) rfl (Or.inl lk_is_whole_in_value)) (e_var (i := 2) rfl (Or.inl lk_is_whole_in_high)))))))
theorem sc_is_state : FnScope ["top", "value"] ["top", "value"] (defScope st_is_state) := ⟨rfl, rfl, rfl, by decide +kernel, rfl, by decide +kernel, by decide +kernel⟩
theorem nd_is_state : (["top", "value"] : List Str).Nodup := sc_is_state.nd
theorem kd_is_state : (defScope st_is_state).kind = .function := rfl
theorem lk_is_state_is_tuple_of : (defScope st_is_state).names.lookup ("is_tuple_of" : Str) = some .globalImplicit := by decide +kernel
theorem lk_is_state_is_whole_in : (defScope st_is_state).names.lookup ("is_whole_in" : Str) = some .globalImplicit := by decide +kernel
theorem lk_is_state_top : (defScope st_is_state).names.lookup ("top" : Str) = some .local := by decide +kernel
theorem lk_is_state_value : (defScope st_is_state).names.lookup ("value" : Str) = some .local := by decide +kernel
theorem cal_is_state (T : Txt K mg) : Cal0 P w K mg base 3 "is_state" 2 m_is_state := by
  refine Cal0.of (k := 2) (m := 0) (f := b_is_state) T.fn_is_state sc_is_state rfl rfl fun H0 => ?_
  have h_is_tuple_of : Cal ⟨P, w, K, mg, base, ["top", "value"], defScope st_is_state, fun _ => true, 2, H0, []⟩ "is_tuple_of" 3 m_is_tuple_of := (cal_is_tuple_of T).cal (by decide)
  have h_is_whole_in : Cal ⟨P, w, K, mg, base, ["top", "value"], defScope st_is_state, fun _ => true, 2, H0, []⟩ "is_whole_in" 3 m_is_whole_in := (cal_is_whole_in T).cal (by decide)
  exact (ss_cons (s_if (t_not (t_tru (e_call h_is_tuple_of (a_cons (e_var (i := 1) rfl (Or.inl lk_is_state_value)) (a_cons e_int (a_cons e_int a_nil))) lk_is_state_is_tuple_of))) (ss_one (s_ret e_bl)) ss_nil) (ss_one (s_ret (e_and (e_call h_is_whole_in (a_cons (e_ix (e_var (i := 1) rfl (Or.inl lk_is_state_value)) e_int) (a_cons e_int (a_cons (e_var (i := 0) rfl (Or.inl lk_is_state_top)) a_nil))) lk_is_state_is_whole_in) (e_one (e_call h_is_whole_in (a_cons (e_ix (e_var (i := 1) rfl (Or.inl lk_is_state_value)) e_int) (a_cons (e_ix (e_var (i := 1) rfl (Or.inl lk_is_state_value)) e_int) (a_cons (e_var (i := 0) rfl (Or.inl lk_is_state_top)) a_nil))) lk_is_state_is_whole_in))))))
theorem sc_is_rising : FnScope ["value", "item", "at"] ["value"] (defScope st_is_rising) := ⟨rfl, rfl, rfl, by decide +kernel, rfl, by decide +kernel, by decide +kernel⟩
theorem nd_is_rising : (["value", "item", "at"] : List Str).Nodup := sc_is_rising.nd
theorem kd_is_rising : (defScope st_is_rising).kind = .function := rfl
theorem lk_is_rising_at : (defScope st_is_rising).names.lookup ("at" : Str) = some .local := by decide +kernel
theorem lk_is_rising_is_whole : (defScope st_is_rising).names.lookup ("is_whole" : Str) = some .globalImplicit := by decide +kernel
theorem lk_is_rising_isinstance : (defScope st_is_rising).names.lookup ("isinstance" : Str) = some .globalImplicit := by decide +kernel
theorem lk_is_rising_item : (defScope st_is_rising).names.lookup ("item" : Str) = some .local := by decide +kernel
theorem lk_is_rising_len : (defScope st_is_rising).names.lookup ("len" : Str) = some .globalImplicit := by decide +kernel
theorem lk_is_rising_range : (defScope st_is_rising).names.lookup ("range" : Str) = some .globalImplicit := by decide +kernel
theorem lk_is_rising_tuple : (defScope st_is_rising).names.lookup ("tuple" : Str) = some .globalImplicit := by decide +kernel
theorem lk_is_rising_value : (defScope st_is_rising).names.lookup ("value" : Str) = some .local := by decide +kernel
theorem cal_is_rising (T : Txt K mg) : Cal0 P w K mg base 2 "is_rising" 1 m_is_rising := by
  refine Cal0.of (k := 1) (m := 2) (f := b_is_rising) T.fn_is_rising sc_is_rising rfl rfl fun H0 => ?_
  have h_is_whole : Cal ⟨P, w, K, mg, base, ["value", "item", "at"], defScope st_is_rising, fun _ => true, 1, H0, []⟩ "is_whole" 1 m_is_whole := (cal_is_whole T).cal (by decide)
  exact (ss_cons (s_if (t_not (t_isi .tuple rfl T.no_isinstance T.no_tuple (e_var (i := 0) rfl (Or.inl lk_is_rising_value)) lk_is_rising_isinstance lk_is_rising_tuple)) (ss_one (s_ret e_bl)) ss_nil) (ss_cons (s_for (i_val (e_var (i := 0) rfl (Or.inl lk_is_rising_value))) (g_nm ⟨nd_is_rising, rfl, Or.inl lk_is_rising_item, Or.inl rfl⟩) (ss_one (s_if (t_not (t_tru (e_call h_is_whole (a_cons (e_var (i := 1) rfl (Or.inl lk_is_rising_item)) a_nil) lk_is_rising_is_whole))) (ss_one (s_ret e_bl)) ss_nil))) (ss_cons (s_for (i_rg2 T.no_range (a_cons e_int (a_cons (e_cb (fun _ A => c_len A) T.no_len rfl (a_cons (e_var (i := 0) rfl (Or.inl lk_is_rising_value)) a_nil) lk_is_rising_len) a_nil)) lk_is_rising_range) (g_nm ⟨nd_is_rising, rfl, Or.inl lk_is_rising_at, Or.inl rfl⟩) (ss_one (s_if (t_cmp (fun _ A => o_ge A) (e_ix (e_var (i := 0) rfl (Or.inl lk_is_rising_value)) (e_bin (fun _ A => o_sub A) (e_var (i := 2) rfl (Or.inl lk_is_rising_at)) e_int)) (e_ix (e_var (i := 0) rfl (Or.inl lk_is_rising_value)) (e_var (i := 2) rfl (Or.inl lk_is_rising_at)))) (ss_one (s_ret e_bl)) ss_nil))) (ss_one (s_ret e_bl)))))
theorem sc_is_file : FnScope ["top", "value"] ["top", "value"] (defScope st_is_file) := ⟨rfl, rfl, rfl, by decide +kernel, rfl, by decide +kernel, by decide +kernel⟩
theorem nd_is_file : (["top", "value"] : List Str).Nodup := sc_is_file.nd
theorem kd_is_file : (defScope st_is_file).kind = .function := rfl
theorem lk_is_file_is_tuple_of : (defScope st_is_file).names.lookup ("is_tuple_of" : Str) = some .globalImplicit := by decide +kernel
theorem lk_is_file_is_whole_in : (defScope st_is_file).names.lookup ("is_whole_in" : Str) = some .globalImplicit := by decide +kernel
theorem lk_is_file_top : (defScope st_is_file).names.lookup ("top" : Str) = some .local := by decide +kernel
theorem lk_is_file_value : (defScope st_is_file).names.lookup ("value" : Str) = some .local := by decide +kernel
theorem cal_is_file (T : Txt K mg) : Cal0 P w K mg base 3 "is_file" 2 m_is_file := by
  refine Cal0.of (k := 2) (m := 0) (f := b_is_file) T.fn_is_file sc_is_file rfl rfl fun H0 => ?_
  have h_is_tuple_of : Cal ⟨P, w, K, mg, base, ["top", "value"], defScope st_is_file, fun _ => true, 2, H0, []⟩ "is_tuple_of" 3 m_is_tuple_of := (cal_is_tuple_of T).cal (by decide)
  have h_is_whole_in : Cal ⟨P, w, K, mg, base, ["top", "value"], defScope st_is_file, fun _ => true, 2, H0, []⟩ "is_whole_in" 3 m_is_whole_in := (cal_is_whole_in T).cal (by decide)
  exact (ss_cons (s_if (t_not (t_tru (e_call h_is_tuple_of (a_cons (e_var (i := 1) rfl (Or.inl lk_is_file_value)) (a_cons e_int (a_cons e_int a_nil))) lk_is_file_is_tuple_of))) (ss_one (s_ret e_bl)) ss_nil) (ss_one (s_ret (e_and (e_call h_is_whole_in (a_cons (e_ix (e_var (i := 1) rfl (Or.inl lk_is_file_value)) e_int) (a_cons e_int (a_cons (e_var (i := 0) rfl (Or.inl lk_is_file_top)) a_nil))) lk_is_file_is_whole_in) (e_one (e_call h_is_whole_in (a_cons (e_ix (e_var (i := 1) rfl (Or.inl lk_is_file_value)) e_int) (a_cons e_int (a_cons (e_ix (e_var (i := 1) rfl (Or.inl lk_is_file_value)) e_int) a_nil))) lk_is_file_is_whole_in))))))
theorem sc_check_righting : FnScope ["subject", "top", "start", "goal", "gauges", "files", "gauge", "item"] ["subject"] (defScope st_check_righting) := ⟨rfl, rfl, rfl, by decide +kernel, rfl, by decide +kernel, by decide +kernel⟩
theorem nd_check_righting : (["subject", "top", "start", "goal", "gauges", "files", "gauge", "item"] : List Str).Nodup := sc_check_righting.nd
theorem kd_check_righting : (defScope st_check_righting).kind = .function := rfl
theorem lk_check_righting_BadRighting : (defScope st_check_righting).names.lookup ("BadRighting" : Str) = some .globalImplicit := by decide +kernel
theorem lk_check_righting_all : (defScope st_check_righting).names.lookup ("all" : Str) = some .globalImplicit := by decide +kernel
theorem lk_check_righting_files : (defScope st_check_righting).names.lookup ("files" : Str) = some .local := by decide +kernel
theorem lk_check_righting_gauges : (defScope st_check_righting).names.lookup ("gauges" : Str) = some .local := by decide +kernel
theorem lk_check_righting_goal : (defScope st_check_righting).names.lookup ("goal" : Str) = some .local := by decide +kernel
theorem lk_check_righting_is_rising : (defScope st_check_righting).names.lookup ("is_rising" : Str) = some .globalImplicit := by decide +kernel
theorem lk_check_righting_is_state : (defScope st_check_righting).names.lookup ("is_state" : Str) = some .globalImplicit := by decide +kernel
theorem lk_check_righting_is_tuple_of : (defScope st_check_righting).names.lookup ("is_tuple_of" : Str) = some .globalImplicit := by decide +kernel
theorem lk_check_righting_is_whole_in : (defScope st_check_righting).names.lookup ("is_whole_in" : Str) = some .globalImplicit := by decide +kernel
theorem lk_check_righting_start : (defScope st_check_righting).names.lookup ("start" : Str) = some .local := by decide +kernel
theorem lk_check_righting_subject : (defScope st_check_righting).names.lookup ("subject" : Str) = some .local := by decide +kernel
theorem lk_check_righting_top : (defScope st_check_righting).names.lookup ("top" : Str) = some .cell := by decide +kernel
theorem cal_check_righting (T : Txt K mg) : Cal0 P w K mg base 4 "check_righting" 1 m_check_righting := by
  refine Cal0.of (k := 3) (m := 7) (f := b_check_righting) T.fn_check_righting sc_check_righting rfl rfl fun H0 => ?_
  have h_is_tuple_of : Cal ⟨P, w, K, mg, base, ["subject", "top", "start", "goal", "gauges", "files", "gauge", "item"], defScope st_check_righting, fun _ => true, 3, H0, []⟩ "is_tuple_of" 3 m_is_tuple_of := (cal_is_tuple_of T).cal (by decide)
  have h_is_whole_in : Cal ⟨P, w, K, mg, base, ["subject", "top", "start", "goal", "gauges", "files", "gauge", "item"], defScope st_check_righting, fun _ => true, 3, H0, []⟩ "is_whole_in" 3 m_is_whole_in := (cal_is_whole_in T).cal (by decide)
  have h_is_state : Cal ⟨P, w, K, mg, base, ["subject", "top", "start", "goal", "gauges", "files", "gauge", "item"], defScope st_check_righting, fun _ => true, 3, H0, []⟩ "is_state" 2 m_is_state := (cal_is_state T).cal (by decide)
  have h_is_rising : Cal ⟨P, w, K, mg, base, ["subject", "top", "start", "goal", "gauges", "files", "gauge", "item"], defScope st_check_righting, fun _ => true, 3, H0, []⟩ "is_rising" 1 m_is_rising := (cal_is_rising T).cal (by decide)
  have h_is_file : Cal ⟨P, w, K, mg, base, ["subject", "top", "start", "goal", "gauges", "files", "gauge", "item"], defScope st_check_righting, fun _ => true, 3, H0, []⟩ "is_file" 2 m_is_file := (cal_is_file T).cal (by decide)
  exact (ss_cons (s_if (t_not (t_tru (e_call h_is_tuple_of (a_cons (e_var (i := 0) rfl (Or.inl lk_check_righting_subject)) (a_cons e_int (a_cons e_int a_nil))) lk_check_righting_is_tuple_of))) (ss_one (s_raise ⟨T.exc_BadRighting⟩ lk_check_righting_BadRighting)) ss_nil) (ss_cons (s_asg (e_var (i := 0) rfl (Or.inl lk_check_righting_subject)) (g_tp (gs_cons (g_nm ⟨nd_check_righting, rfl, Or.inr lk_check_righting_top, Or.inl rfl⟩) (gs_cons (g_nm ⟨nd_check_righting, rfl, Or.inl lk_check_righting_start, Or.inl rfl⟩) (gs_cons (g_nm ⟨nd_check_righting, rfl, Or.inl lk_check_righting_goal, Or.inl rfl⟩) (gs_cons (g_nm ⟨nd_check_righting, rfl, Or.inl lk_check_righting_gauges, Or.inl rfl⟩) (gs_cons (g_nm ⟨nd_check_righting, rfl, Or.inl lk_check_righting_files, Or.inl rfl⟩) gs_nil))))))) (ss_cons (s_if (t_not (t_tru (e_call h_is_whole_in (a_cons (e_var (i := 1) rfl (Or.inr (Or.inl lk_check_righting_top))) (a_cons e_int (a_cons (e_glob ⟨T.con_DEEPEST⟩) a_nil))) lk_check_righting_is_whole_in))) (ss_one (s_raise ⟨T.exc_BadRighting⟩ lk_check_righting_BadRighting)) ss_nil) (ss_cons (s_if (t_w (w_or (t_not (t_tru (e_call h_is_state (a_cons (e_var (i := 1) rfl (Or.inr (Or.inl lk_check_righting_top))) (a_cons (e_var (i := 2) rfl (Or.inl lk_check_righting_start)) a_nil)) lk_check_righting_is_state))) (w_or1 (t_not (t_tru (e_call h_is_state (a_cons (e_var (i := 1) rfl (Or.inr (Or.inl lk_check_righting_top))) (a_cons (e_var (i := 3) rfl (Or.inl lk_check_righting_goal)) a_nil)) lk_check_righting_is_state)))))) (ss_one (s_raise ⟨T.exc_BadRighting⟩ lk_check_righting_BadRighting)) ss_nil) (ss_cons (s_if (t_w (w_or (t_not (t_tru (e_call h_is_tuple_of (a_cons (e_var (i := 4) rfl (Or.inl lk_check_righting_gauges)) (a_cons e_int (a_cons (e_glob ⟨T.con_MOST_GAUGES⟩) a_nil))) lk_check_righting_is_tuple_of))) (w_or1 (t_not (t_tru (e_call h_is_rising (a_cons (e_var (i := 4) rfl (Or.inl lk_check_righting_gauges)) a_nil) lk_check_righting_is_rising)))))) (ss_one (s_raise ⟨T.exc_BadRighting⟩ lk_check_righting_BadRighting)) ss_nil) (ss_cons (s_if (t_not (t_tru (e_cb (fun _ A => c_all A) T.no_all rfl (a_cons (e_lc (own := [("gauge", 6)]) nd_check_righting (by dsimp only; decide +kernel) rfl rfl (i_val (e_var (i := 4) rfl (Or.inl lk_check_righting_gauges))) (fun _ => (g_nm ⟨nd_check_righting, rfl, (by first | exact Or.inl rfl | exact Or.inr rfl), (by first | exact Or.inl rfl | exact Or.inr rfl)⟩)) (fun _ => ts_no) (fun _ => (e_call ⟨h_is_whole_in.ex⟩ (a_cons (e_var (i := 6) rfl ) (a_cons e_int (a_cons (e_bin (fun _ A => o_sub A) (e_var (i := 1) rfl ) e_int) a_nil))) ))) a_nil) lk_check_righting_all))) (ss_one (s_raise ⟨T.exc_BadRighting⟩ lk_check_righting_BadRighting)) ss_nil) (ss_one (s_if (t_w (w_or (t_not (t_tru (e_call h_is_tuple_of (a_cons (e_var (i := 5) rfl (Or.inl lk_check_righting_files)) (a_cons e_int (a_cons (e_glob ⟨T.con_MOST_FILES⟩) a_nil))) lk_check_righting_is_tuple_of))) (w_or1 (t_not (t_tru (e_cb (fun _ A => c_all A) T.no_all rfl (a_cons (e_lc (own := [("item", 7)]) nd_check_righting (by dsimp only; decide +kernel) rfl rfl (i_val (e_var (i := 5) rfl (Or.inl lk_check_righting_files))) (fun _ => (g_nm ⟨nd_check_righting, rfl, (by first | exact Or.inl rfl | exact Or.inr rfl), (by first | exact Or.inl rfl | exact Or.inr rfl)⟩)) (fun _ => ts_no) (fun _ => (e_call ⟨h_is_file.ex⟩ (a_cons (e_var (i := 1) rfl ) (a_cons (e_var (i := 7) rfl ) a_nil)) ))) a_nil) lk_check_righting_all)))))) (ss_one (s_raise ⟨T.exc_BadRighting⟩ lk_check_righting_BadRighting)) ss_nil))))))))
theorem sc__law_moves : FnScope ["subject", "state", "found", "t", "i"] ["subject", "state"] (defScope st__law_moves) := ⟨rfl, rfl, rfl, by decide +kernel, rfl, by decide +kernel, by decide +kernel⟩
theorem nd__law_moves : (["subject", "state", "found", "t", "i"] : List Str).Nodup := sc__law_moves.nd
theorem kd__law_moves : (defScope st__law_moves).kind = .function := rfl
theorem lk__law_moves_found : (defScope st__law_moves).names.lookup ("found" : Str) = some .local := by decide +kernel
theorem lk__law_moves_i : (defScope st__law_moves).names.lookup ("i" : Str) = some .local := by decide +kernel
theorem lk__law_moves_len : (defScope st__law_moves).names.lookup ("len" : Str) = some .globalImplicit := by decide +kernel
theorem lk__law_moves_range : (defScope st__law_moves).names.lookup ("range" : Str) = some .globalImplicit := by decide +kernel
theorem lk__law_moves_state : (defScope st__law_moves).names.lookup ("state" : Str) = some .local := by decide +kernel
theorem lk__law_moves_subject : (defScope st__law_moves).names.lookup ("subject" : Str) = some .local := by decide +kernel
theorem lk__law_moves_t : (defScope st__law_moves).names.lookup ("t" : Str) = some .local := by decide +kernel
theorem cal__law_moves (T : Txt K mg) : Cal0 P w K mg base 1 "_law_moves" 2 m__law_moves := by
  refine Cal0.of (k := 0) (m := 3) (f := b__law_moves) T.fn__law_moves sc__law_moves rfl rfl fun H0 => ?_
  exact (ss_cons (s_set ⟨nd__law_moves, rfl, Or.inl lk__law_moves_found, Or.inl rfl⟩ (e_lst a_nil)) (ss_cons (s_for (i_val (e_ix (e_var (i := 0) rfl (Or.inl lk__law_moves_subject)) e_int)) (g_nm ⟨nd__law_moves, rfl, Or.inl lk__law_moves_t, Or.inl rfl⟩) (ss_one (s_if (t_chain (fun _ A => o_le A) (fun _ A => o_lt A) (e_ix (e_var (i := 1) rfl (Or.inl lk__law_moves_state)) e_int) (e_var (i := 3) rfl (Or.inl lk__law_moves_t)) (e_ix (e_var (i := 1) rfl (Or.inl lk__law_moves_state)) e_int)) (ss_one (s_ex (e_ml (i := 2) PySem.F.slot_list_append PySem.F.type_list_append (fun _ A => m_append A) (a_cons (e_tup (a_cons e_str (a_cons (e_var (i := 3) rfl (Or.inl lk__law_moves_t)) a_nil))) a_nil) rfl (Or.inl lk__law_moves_found)))) ss_nil))) (ss_cons (s_for (i_rg1 T.no_range (a_cons (e_cb (fun _ A => c_len A) T.no_len rfl (a_cons (e_ix (e_var (i := 0) rfl (Or.inl lk__law_moves_subject)) e_int) a_nil) lk__law_moves_len) a_nil) lk__law_moves_range) (g_nm ⟨nd__law_moves, rfl, Or.inl lk__law_moves_i, Or.inl rfl⟩) (ss_one (s_if (t_cmp (fun _ A => o_ge A) (e_bin (fun _ A => o_sub A) (e_bin (fun _ A => o_sub A) (e_ix (e_var (i := 1) rfl (Or.inl lk__law_moves_state)) e_int) (e_ix (e_ix (e_ix (e_var (i := 0) rfl (Or.inl lk__law_moves_subject)) e_int) (e_var (i := 4) rfl (Or.inl lk__law_moves_i))) e_int)) (e_ix (e_ix (e_ix (e_var (i := 0) rfl (Or.inl lk__law_moves_subject)) e_int) (e_var (i := 4) rfl (Or.inl lk__law_moves_i))) e_int)) e_int) (ss_one (s_ex (e_ml (i := 2) PySem.F.slot_list_append PySem.F.type_list_append (fun _ A => m_append A) (a_cons (e_tup (a_cons e_str (a_cons (e_var (i := 4) rfl (Or.inl lk__law_moves_i)) a_nil))) a_nil) rfl (Or.inl lk__law_moves_found)))) ss_nil))) (ss_one (s_ret (e_var (i := 2) rfl (Or.inl lk__law_moves_found)))))))
theorem sc__law_same : FnScope ["actual", "expected", "k"] ["actual", "expected"] (defScope st__law_same) := ⟨rfl, rfl, rfl, by decide +kernel, rfl, by decide +kernel, by decide +kernel⟩
theorem nd__law_same : (["actual", "expected", "k"] : List Str).Nodup := sc__law_same.nd
theorem kd__law_same : (defScope st__law_same).kind = .function := rfl
theorem lk__law_same__law_same : (defScope st__law_same).names.lookup ("_law_same" : Str) = some .globalImplicit := by decide +kernel
theorem lk__law_same_actual : (defScope st__law_same).names.lookup ("actual" : Str) = some .local := by decide +kernel
theorem lk__law_same_bool : (defScope st__law_same).names.lookup ("bool" : Str) = some .globalImplicit := by decide +kernel
theorem lk__law_same_expected : (defScope st__law_same).names.lookup ("expected" : Str) = some .local := by decide +kernel
theorem lk__law_same_int : (defScope st__law_same).names.lookup ("int" : Str) = some .globalImplicit := by decide +kernel
theorem lk__law_same_isinstance : (defScope st__law_same).names.lookup ("isinstance" : Str) = some .globalImplicit := by decide +kernel
theorem lk__law_same_k : (defScope st__law_same).names.lookup ("k" : Str) = some .local := by decide +kernel
theorem lk__law_same_len : (defScope st__law_same).names.lookup ("len" : Str) = some .globalImplicit := by decide +kernel
theorem lk__law_same_range : (defScope st__law_same).names.lookup ("range" : Str) = some .globalImplicit := by decide +kernel
theorem lk__law_same_str : (defScope st__law_same).names.lookup ("str" : Str) = some .globalImplicit := by decide +kernel
theorem lk__law_same_tuple : (defScope st__law_same).names.lookup ("tuple" : Str) = some .globalImplicit := by decide +kernel
theorem calr__law_same (T : Txt K mg) : ∀ n, Cal0 P w K mg base (0 + n) "_law_same" 2 (r__law_same n)
  | 0 => Cal0.none_ T.fn__law_same
  | n + 1 => by
    refine Cal0.of (k := 0 + n) (m := 1) (f := b__law_same (r__law_same n)) T.fn__law_same sc__law_same rfl rfl fun H0 => ?_
    have h__law_same : Cal ⟨P, w, K, mg, base, ["actual", "expected", "k"], defScope st__law_same, fun _ => true, 0 + n, H0, []⟩ "_law_same" 2 (r__law_same n) := (calr__law_same T n).cal (Nat.le_refl _)
    exact (ss_cons (s_if (t_isi .tuple rfl T.no_isinstance T.no_tuple (e_var (i := 1) rfl (Or.inl lk__law_same_expected)) lk__law_same_isinstance lk__law_same_tuple) (ss_cons (s_if (t_w (w_or (t_not (t_isi .tuple rfl T.no_isinstance T.no_tuple (e_var (i := 0) rfl (Or.inl lk__law_same_actual)) lk__law_same_isinstance lk__law_same_tuple)) (w_or1 (t_cmp (fun _ A => o_ne A) (e_cb (fun _ A => c_len A) T.no_len rfl (a_cons (e_var (i := 0) rfl (Or.inl lk__law_same_actual)) a_nil) lk__law_same_len) (e_cb (fun _ A => c_len A) T.no_len rfl (a_cons (e_var (i := 1) rfl (Or.inl lk__law_same_expected)) a_nil) lk__law_same_len))))) (ss_one (s_ret e_bl)) ss_nil) (ss_cons (s_for (i_rg1 T.no_range (a_cons (e_cb (fun _ A => c_len A) T.no_len rfl (a_cons (e_var (i := 1) rfl (Or.inl lk__law_same_expected)) a_nil) lk__law_same_len) a_nil) lk__law_same_range) (g_nm ⟨nd__law_same, rfl, Or.inl lk__law_same_k, Or.inl rfl⟩) (ss_one (s_if (t_not (t_tru (e_call h__law_same (a_cons (e_ix (e_var (i := 0) rfl (Or.inl lk__law_same_actual)) (e_var (i := 2) rfl (Or.inl lk__law_same_k))) (a_cons (e_ix (e_var (i := 1) rfl (Or.inl lk__law_same_expected)) (e_var (i := 2) rfl (Or.inl lk__law_same_k))) a_nil)) lk__law_same__law_same))) (ss_one (s_ret e_bl)) ss_nil))) (ss_one (s_ret e_bl)))) ss_nil) (ss_cons (s_if (t_cmp (fun _ A => o_is A) (e_var (i := 1) rfl (Or.inl lk__law_same_expected)) e_non) (ss_one (s_ret (e_cmp (fun _ A => o_is A) (e_var (i := 0) rfl (Or.inl lk__law_same_actual)) e_non))) ss_nil) (ss_cons (s_if (t_cmp (fun _ A => o_is A) (e_var (i := 1) rfl (Or.inl lk__law_same_expected)) e_bl) (ss_one (s_ret (e_cmp (fun _ A => o_is A) (e_var (i := 0) rfl (Or.inl lk__law_same_actual)) e_bl))) ss_nil) (ss_cons (s_if (t_cmp (fun _ A => o_is A) (e_var (i := 1) rfl (Or.inl lk__law_same_expected)) e_bl) (ss_one (s_ret (e_cmp (fun _ A => o_is A) (e_var (i := 0) rfl (Or.inl lk__law_same_actual)) e_bl))) ss_nil) (ss_cons (s_if (t_isi .int rfl T.no_isinstance T.no_int (e_var (i := 1) rfl (Or.inl lk__law_same_expected)) lk__law_same_isinstance lk__law_same_int) (ss_one (s_ret (e_and (e_isi .int rfl T.no_isinstance T.no_int (e_var (i := 0) rfl (Or.inl lk__law_same_actual)) lk__law_same_isinstance lk__law_same_int) (e_and (e_not (e_isi .bool rfl T.no_isinstance T.no_bool (e_var (i := 0) rfl (Or.inl lk__law_same_actual)) lk__law_same_isinstance lk__law_same_bool)) (e_one (e_cmp (fun _ A => o_eq A) (e_var (i := 0) rfl (Or.inl lk__law_same_actual)) (e_var (i := 1) rfl (Or.inl lk__law_same_expected)))))))) ss_nil) (ss_one (s_ret (e_and (e_isi .str rfl T.no_isinstance T.no_str (e_var (i := 0) rfl (Or.inl lk__law_same_actual)) lk__law_same_isinstance lk__law_same_str) (e_one (e_cmp (fun _ A => o_eq A) (e_var (i := 0) rfl (Or.inl lk__law_same_actual)) (e_var (i := 1) rfl (Or.inl lk__law_same_expected))))))))))))
theorem cal__law_same (T : Txt K mg) : Cal0 P w K mg base 41 "_law_same" 2 m__law_same := by
  have h := calr__law_same (P := P) (w := w) (base := base) T 40
  obtain ⟨f, fd, ps, h1, h2⟩ := h.ex
  exact ⟨f, fd, ps, h1.mono (by decide), h2⟩
theorem sc_check_state : FnScope ["subject", "state"] ["subject", "state"] (defScope st_check_state) := ⟨rfl, rfl, rfl, by decide +kernel, rfl, by decide +kernel, by decide +kernel⟩
theorem nd_check_state : (["subject", "state"] : List Str).Nodup := sc_check_state.nd
theorem kd_check_state : (defScope st_check_state).kind = .function := rfl
theorem lk_check_state_BadRighting : (defScope st_check_state).names.lookup ("BadRighting" : Str) = some .globalImplicit := by decide +kernel
theorem lk_check_state_check_righting : (defScope st_check_state).names.lookup ("check_righting" : Str) = some .globalImplicit := by decide +kernel
theorem lk_check_state_is_state : (defScope st_check_state).names.lookup ("is_state" : Str) = some .globalImplicit := by decide +kernel
theorem lk_check_state_state : (defScope st_check_state).names.lookup ("state" : Str) = some .local := by decide +kernel
theorem lk_check_state_subject : (defScope st_check_state).names.lookup ("subject" : Str) = some .local := by decide +kernel
theorem cal_check_state (T : Txt K mg) : Cal0 P w K mg base 5 "check_state" 2 m_check_state := by
  refine Cal0.of (k := 4) (m := 0) (f := b_check_state) T.fn_check_state sc_check_state rfl rfl fun H0 => ?_
  have h_is_state : Cal ⟨P, w, K, mg, base, ["subject", "state"], defScope st_check_state, fun _ => true, 4, H0, []⟩ "is_state" 2 m_is_state := (cal_is_state T).cal (by decide)
  have h_check_righting : Cal ⟨P, w, K, mg, base, ["subject", "state"], defScope st_check_state, fun _ => true, 4, H0, []⟩ "check_righting" 1 m_check_righting := (cal_check_righting T).cal (by decide)
  exact (ss_cons (s_ex (e_call h_check_righting (a_cons (e_var (i := 0) rfl (Or.inl lk_check_state_subject)) a_nil) lk_check_state_check_righting)) (ss_one (s_if (t_not (t_tru (e_call h_is_state (a_cons (e_ix (e_var (i := 0) rfl (Or.inl lk_check_state_subject)) e_int) (a_cons (e_var (i := 1) rfl (Or.inl lk_check_state_state)) a_nil)) lk_check_state_is_state))) (ss_one (s_raise ⟨T.exc_BadRighting⟩ lk_check_state_BadRighting)) ss_nil)))
theorem sc_outcomes_at : FnScope ["subject", "state", "move", "low", "high", "cut", "slip"] ["subject", "state", "move"] (defScope st_outcomes_at) := ⟨rfl, rfl, rfl, by decide +kernel, rfl, by decide +kernel, by decide +kernel⟩
theorem nd_outcomes_at : (["subject", "state", "move", "low", "high", "cut", "slip"] : List Str).Nodup := sc_outcomes_at.nd
theorem kd_outcomes_at : (defScope st_outcomes_at).kind = .function := rfl
theorem lk_outcomes_at_cut : (defScope st_outcomes_at).names.lookup ("cut" : Str) = some .local := by decide +kernel
theorem lk_outcomes_at_high : (defScope st_outcomes_at).names.lookup ("high" : Str) = some .local := by decide +kernel
theorem lk_outcomes_at_low : (defScope st_outcomes_at).names.lookup ("low" : Str) = some .local := by decide +kernel
theorem lk_outcomes_at_move : (defScope st_outcomes_at).names.lookup ("move" : Str) = some .local := by decide +kernel
theorem lk_outcomes_at_slip : (defScope st_outcomes_at).names.lookup ("slip" : Str) = some .local := by decide +kernel
theorem lk_outcomes_at_state : (defScope st_outcomes_at).names.lookup ("state" : Str) = some .local := by decide +kernel
theorem lk_outcomes_at_subject : (defScope st_outcomes_at).names.lookup ("subject" : Str) = some .local := by decide +kernel
theorem cal_outcomes_at (T : Txt K mg) : Cal0 P w K mg base 1 "outcomes_at" 3 m_outcomes_at := by
  refine Cal0.of (k := 0) (m := 4) (f := b_outcomes_at) T.fn_outcomes_at sc_outcomes_at rfl rfl fun H0 => ?_
  exact (ss_cons (s_asg (e_var (i := 1) rfl (Or.inl lk_outcomes_at_state)) (g_tp (gs_cons (g_nm ⟨nd_outcomes_at, rfl, Or.inl lk_outcomes_at_low, Or.inl rfl⟩) (gs_cons (g_nm ⟨nd_outcomes_at, rfl, Or.inl lk_outcomes_at_high, Or.inl rfl⟩) gs_nil)))) (ss_cons (s_if (t_cmp (fun _ A => o_eq A) (e_ix (e_var (i := 2) rfl (Or.inl lk_outcomes_at_move)) e_int) e_str) (ss_one (s_ret (e_tup (a_cons (e_tup (a_cons (e_var (i := 3) rfl (Or.inl lk_outcomes_at_low)) (a_cons (e_ix (e_var (i := 2) rfl (Or.inl lk_outcomes_at_move)) e_int) a_nil))) (a_cons (e_tup (a_cons (e_bin (fun _ A => o_add A) (e_ix (e_var (i := 2) rfl (Or.inl lk_outcomes_at_move)) e_int) e_int) (a_cons (e_var (i := 4) rfl (Or.inl lk_outcomes_at_high)) a_nil))) a_nil))))) ss_nil) (ss_cons (s_asg (e_ix (e_ix (e_var (i := 0) rfl (Or.inl lk_outcomes_at_subject)) e_int) (e_ix (e_var (i := 2) rfl (Or.inl lk_outcomes_at_move)) e_int)) (g_tp (gs_cons (g_nm ⟨nd_outcomes_at, rfl, Or.inl lk_outcomes_at_cut, Or.inl rfl⟩) (gs_cons (g_nm ⟨nd_outcomes_at, rfl, Or.inl lk_outcomes_at_slip, Or.inl rfl⟩) gs_nil)))) (ss_one (s_ret (e_tup (a_cons (e_tup (a_cons (e_bin (fun _ A => o_sub A) (e_bin (fun _ A => o_sub A) (e_var (i := 3) rfl (Or.inl lk_outcomes_at_low)) (e_var (i := 5) rfl (Or.inl lk_outcomes_at_cut))) (e_var (i := 6) rfl (Or.inl lk_outcomes_at_slip))) (a_cons (e_bin (fun _ A => o_add A) (e_bin (fun _ A => o_sub A) (e_var (i := 4) rfl (Or.inl lk_outcomes_at_high)) (e_var (i := 5) rfl (Or.inl lk_outcomes_at_cut))) (e_var (i := 6) rfl (Or.inl lk_outcomes_at_slip))) a_nil))) a_nil)))))))
theorem sc_moves_at : FnScope ["subject", "state", "found", "low", "high", "index", "gauge", "cut", "slip"] ["subject", "state"] (defScope st_moves_at) := ⟨rfl, rfl, rfl, by decide +kernel, rfl, by decide +kernel, by decide +kernel⟩
theorem nd_moves_at : (["subject", "state", "found", "low", "high", "index", "gauge", "cut", "slip"] : List Str).Nodup := sc_moves_at.nd
theorem kd_moves_at : (defScope st_moves_at).kind = .function := rfl
theorem lk_moves_at_cut : (defScope st_moves_at).names.lookup ("cut" : Str) = some .local := by decide +kernel
theorem lk_moves_at_enumerate : (defScope st_moves_at).names.lookup ("enumerate" : Str) = some .globalImplicit := by decide +kernel
theorem lk_moves_at_found : (defScope st_moves_at).names.lookup ("found" : Str) = some .local := by decide +kernel
theorem lk_moves_at_high : (defScope st_moves_at).names.lookup ("high" : Str) = some .cell := by decide +kernel
theorem lk_moves_at_index : (defScope st_moves_at).names.lookup ("index" : Str) = some .local := by decide +kernel
theorem lk_moves_at_low : (defScope st_moves_at).names.lookup ("low" : Str) = some .cell := by decide +kernel
theorem lk_moves_at_slip : (defScope st_moves_at).names.lookup ("slip" : Str) = some .local := by decide +kernel
theorem lk_moves_at_state : (defScope st_moves_at).names.lookup ("state" : Str) = some .local := by decide +kernel
theorem lk_moves_at_subject : (defScope st_moves_at).names.lookup ("subject" : Str) = some .local := by decide +kernel
theorem lk_moves_at_tuple : (defScope st_moves_at).names.lookup ("tuple" : Str) = some .globalImplicit := by decide +kernel
theorem cal_moves_at (T : Txt K mg) : Cal0 P w K mg base 1 "moves_at" 2 m_moves_at := by
  refine Cal0.of (k := 0) (m := 7) (f := b_moves_at) T.fn_moves_at sc_moves_at rfl rfl fun H0 => ?_
  exact (ss_cons (s_asg (e_var (i := 1) rfl (Or.inl lk_moves_at_state)) (g_tp (gs_cons (g_nm ⟨nd_moves_at, rfl, Or.inr lk_moves_at_low, Or.inl rfl⟩) (gs_cons (g_nm ⟨nd_moves_at, rfl, Or.inr lk_moves_at_high, Or.inl rfl⟩) gs_nil)))) (ss_cons (s_lc (own := [("gauge", 6)]) ⟨nd_moves_at, rfl, Or.inl lk_moves_at_found, Or.inl rfl⟩ lk_moves_at_found rfl (by decide +kernel) kd_moves_at (by dsimp only; decide +kernel) rfl rfl (i_val (e_ix (e_var (i := 0) rfl (Or.inl lk_moves_at_subject)) e_int)) (fun _ => (g_nm ⟨nd_moves_at, rfl, (by first | exact Or.inl rfl | exact Or.inr rfl), (by first | exact Or.inl rfl | exact Or.inr rfl)⟩)) (fun _ => (ts_one (t_chain (fun _ A => o_le A) (fun _ A => o_lt A) (e_var (i := 3) rfl ) (e_var (i := 6) rfl ) (e_var (i := 4) rfl )))) (fun _ => (e_tup (a_cons e_str (a_cons (e_var (i := 6) rfl ) a_nil))))) (ss_cons (s_for (i_en T.no_enumerate (e_ix (e_var (i := 0) rfl (Or.inl lk_moves_at_subject)) e_int) lk_moves_at_enumerate) (g_tp (gs_cons (g_nm ⟨nd_moves_at, rfl, Or.inl lk_moves_at_index, Or.inl rfl⟩) (gs_cons (g_tp (gs_cons (g_nm ⟨nd_moves_at, rfl, Or.inl lk_moves_at_cut, Or.inl rfl⟩) (gs_cons (g_nm ⟨nd_moves_at, rfl, Or.inl lk_moves_at_slip, Or.inl rfl⟩) gs_nil))) gs_nil))) (ss_one (s_if (t_cmp (fun _ A => o_ge A) (e_bin (fun _ A => o_sub A) (e_bin (fun _ A => o_sub A) (e_var (i := 3) rfl (Or.inr (Or.inl lk_moves_at_low))) (e_var (i := 7) rfl (Or.inl lk_moves_at_cut))) (e_var (i := 8) rfl (Or.inl lk_moves_at_slip))) e_int) (ss_one (s_ex (e_ml (i := 2) PySem.F.slot_list_append PySem.F.type_list_append (fun _ A => m_append A) (a_cons (e_tup (a_cons e_str (a_cons (e_var (i := 5) rfl (Or.inl lk_moves_at_index)) a_nil))) a_nil) rfl (Or.inl lk_moves_at_found)))) ss_nil))) (ss_one (s_ret (e_cty (fun _ A => c_tup A) T.no_tuple rfl (a_cons (e_var (i := 2) rfl (Or.inl lk_moves_at_found)) a_nil) lk_moves_at_tuple))))))
theorem sc_is_move_at : FnScope ["subject", "state", "value"] ["subject", "state", "value"] (defScope st_is_move_at) := ⟨rfl, rfl, rfl, by decide +kernel, rfl, by decide +kernel, by decide +kernel⟩
theorem nd_is_move_at : (["subject", "state", "value"] : List Str).Nodup := sc_is_move_at.nd
theorem kd_is_move_at : (defScope st_is_move_at).kind = .function := rfl
theorem lk_is_move_at_is_tuple_of : (defScope st_is_move_at).names.lookup ("is_tuple_of" : Str) = some .globalImplicit := by decide +kernel
theorem lk_is_move_at_is_whole : (defScope st_is_move_at).names.lookup ("is_whole" : Str) = some .globalImplicit := by decide +kernel
theorem lk_is_move_at_isinstance : (defScope st_is_move_at).names.lookup ("isinstance" : Str) = some .globalImplicit := by decide +kernel
theorem lk_is_move_at_moves_at : (defScope st_is_move_at).names.lookup ("moves_at" : Str) = some .globalImplicit := by decide +kernel
theorem lk_is_move_at_state : (defScope st_is_move_at).names.lookup ("state" : Str) = some .local := by decide +kernel
theorem lk_is_move_at_str : (defScope st_is_move_at).names.lookup ("str" : Str) = some .globalImplicit := by decide +kernel
theorem lk_is_move_at_subject : (defScope st_is_move_at).names.lookup ("subject" : Str) = some .local := by decide +kernel
theorem lk_is_move_at_value : (defScope st_is_move_at).names.lookup ("value" : Str) = some .local := by decide +kernel
theorem cal_is_move_at (T : Txt K mg) : Cal0 P w K mg base 2 "is_move_at" 3 m_is_move_at := by
  refine Cal0.of (k := 1) (m := 0) (f := b_is_move_at) T.fn_is_move_at sc_is_move_at rfl rfl fun H0 => ?_
  have h_is_tuple_of : Cal ⟨P, w, K, mg, base, ["subject", "state", "value"], defScope st_is_move_at, fun _ => true, 1, H0, []⟩ "is_tuple_of" 3 m_is_tuple_of := (cal_is_tuple_of T).cal (by decide)
  have h_is_whole : Cal ⟨P, w, K, mg, base, ["subject", "state", "value"], defScope st_is_move_at, fun _ => true, 1, H0, []⟩ "is_whole" 1 m_is_whole := (cal_is_whole T).cal (by decide)
  have h_moves_at : Cal ⟨P, w, K, mg, base, ["subject", "state", "value"], defScope st_is_move_at, fun _ => true, 1, H0, []⟩ "moves_at" 2 m_moves_at := (cal_moves_at T).cal (by decide)
  exact (ss_cons (s_if (t_w (w_or (t_not (t_tru (e_call h_is_tuple_of (a_cons (e_var (i := 2) rfl (Or.inl lk_is_move_at_value)) (a_cons e_int (a_cons e_int a_nil))) lk_is_move_at_is_tuple_of))) (w_or (t_not (t_isi .str rfl T.no_isinstance T.no_str (e_ix (e_var (i := 2) rfl (Or.inl lk_is_move_at_value)) e_int) lk_is_move_at_isinstance lk_is_move_at_str)) (w_or1 (t_not (t_tru (e_call h_is_whole (a_cons (e_ix (e_var (i := 2) rfl (Or.inl lk_is_move_at_value)) e_int) a_nil) lk_is_move_at_is_whole))))))) (ss_one (s_ret e_bl)) ss_nil) (ss_one (s_ret (e_cmp (fun _ A => o_in A) (e_var (i := 2) rfl (Or.inl lk_is_move_at_value)) (e_call h_moves_at (a_cons (e_var (i := 0) rfl (Or.inl lk_is_move_at_subject)) (a_cons (e_var (i := 1) rfl (Or.inl lk_is_move_at_state)) a_nil)) lk_is_move_at_moves_at)))))
theorem sc_outcomes : FnScope ["subject", "state", "move"] ["subject", "state", "move"] (defScope st_outcomes) := ⟨rfl, rfl, rfl, by decide +kernel, rfl, by decide +kernel, by decide +kernel⟩
theorem nd_outcomes : (["subject", "state", "move"] : List Str).Nodup := sc_outcomes.nd
theorem kd_outcomes : (defScope st_outcomes).kind = .function := rfl
theorem lk_outcomes_check_state : (defScope st_outcomes).names.lookup ("check_state" : Str) = some .globalImplicit := by decide +kernel
theorem lk_outcomes_is_move_at : (defScope st_outcomes).names.lookup ("is_move_at" : Str) = some .globalImplicit := by decide +kernel
theorem lk_outcomes_move : (defScope st_outcomes).names.lookup ("move" : Str) = some .local := by decide +kernel
theorem lk_outcomes_outcomes_at : (defScope st_outcomes).names.lookup ("outcomes_at" : Str) = some .globalImplicit := by decide +kernel
theorem lk_outcomes_state : (defScope st_outcomes).names.lookup ("state" : Str) = some .local := by decide +kernel
theorem lk_outcomes_subject : (defScope st_outcomes).names.lookup ("subject" : Str) = some .local := by decide +kernel
theorem cal_outcomes (T : Txt K mg) : Cal0 P w K mg base 6 "outcomes" 3 m_outcomes := by
  refine Cal0.of (k := 5) (m := 0) (f := b_outcomes) T.fn_outcomes sc_outcomes rfl rfl fun H0 => ?_
  have h_check_state : Cal ⟨P, w, K, mg, base, ["subject", "state", "move"], defScope st_outcomes, fun _ => true, 5, H0, []⟩ "check_state" 2 m_check_state := (cal_check_state T).cal (by decide)
  have h_outcomes_at : Cal ⟨P, w, K, mg, base, ["subject", "state", "move"], defScope st_outcomes, fun _ => true, 5, H0, []⟩ "outcomes_at" 3 m_outcomes_at := (cal_outcomes_at T).cal (by decide)
  have h_is_move_at : Cal ⟨P, w, K, mg, base, ["subject", "state", "move"], defScope st_outcomes, fun _ => true, 5, H0, []⟩ "is_move_at" 3 m_is_move_at := (cal_is_move_at T).cal (by decide)
  exact (ss_cons (s_ex (e_call h_check_state (a_cons (e_var (i := 0) rfl (Or.inl lk_outcomes_subject)) (a_cons (e_var (i := 1) rfl (Or.inl lk_outcomes_state)) a_nil)) lk_outcomes_check_state)) (ss_cons (s_if (t_not (t_tru (e_call h_is_move_at (a_cons (e_var (i := 0) rfl (Or.inl lk_outcomes_subject)) (a_cons (e_var (i := 1) rfl (Or.inl lk_outcomes_state)) (a_cons (e_var (i := 2) rfl (Or.inl lk_outcomes_move)) a_nil))) lk_outcomes_is_move_at))) (ss_one (s_ret e_non)) ss_nil) (ss_one (s_ret (e_call h_outcomes_at (a_cons (e_var (i := 0) rfl (Or.inl lk_outcomes_subject)) (a_cons (e_var (i := 1) rfl (Or.inl lk_outcomes_state)) (a_cons (e_var (i := 2) rfl (Or.inl lk_outcomes_move)) a_nil))) lk_outcomes_outcomes_at)))))
theorem sc_moves : FnScope ["subject", "state"] ["subject", "state"] (defScope st_moves) := ⟨rfl, rfl, rfl, by decide +kernel, rfl, by decide +kernel, by decide +kernel⟩
theorem nd_moves : (["subject", "state"] : List Str).Nodup := sc_moves.nd
theorem kd_moves : (defScope st_moves).kind = .function := rfl
theorem lk_moves_check_state : (defScope st_moves).names.lookup ("check_state" : Str) = some .globalImplicit := by decide +kernel
theorem lk_moves_moves_at : (defScope st_moves).names.lookup ("moves_at" : Str) = some .globalImplicit := by decide +kernel
theorem lk_moves_state : (defScope st_moves).names.lookup ("state" : Str) = some .local := by decide +kernel
theorem lk_moves_subject : (defScope st_moves).names.lookup ("subject" : Str) = some .local := by decide +kernel
theorem cal_moves (T : Txt K mg) : Cal0 P w K mg base 6 "moves" 2 m_moves := by
  refine Cal0.of (k := 5) (m := 0) (f := b_moves) T.fn_moves sc_moves rfl rfl fun H0 => ?_
  have h_check_state : Cal ⟨P, w, K, mg, base, ["subject", "state"], defScope st_moves, fun _ => true, 5, H0, []⟩ "check_state" 2 m_check_state := (cal_check_state T).cal (by decide)
  have h_moves_at : Cal ⟨P, w, K, mg, base, ["subject", "state"], defScope st_moves, fun _ => true, 5, H0, []⟩ "moves_at" 2 m_moves_at := (cal_moves_at T).cal (by decide)
  exact (ss_cons (s_ex (e_call h_check_state (a_cons (e_var (i := 0) rfl (Or.inl lk_moves_subject)) (a_cons (e_var (i := 1) rfl (Or.inl lk_moves_state)) a_nil)) lk_moves_check_state)) (ss_one (s_ret (e_call h_moves_at (a_cons (e_var (i := 0) rfl (Or.inl lk_moves_subject)) (a_cons (e_var (i := 1) rfl (Or.inl lk_moves_state)) a_nil)) lk_moves_moves_at))))
theorem sc__law_no_state : FnScope ["subject", "state"] ["subject", "state"] (defScope st__law_no_state) := ⟨rfl, rfl, rfl, by decide +kernel, rfl, by decide +kernel, by decide +kernel⟩
theorem nd__law_no_state : (["subject", "state"] : List Str).Nodup := sc__law_no_state.nd
theorem kd__law_no_state : (defScope st__law_no_state).kind = .function := rfl
theorem lk__law_no_state_BadRighting : (defScope st__law_no_state).names.lookup ("BadRighting" : Str) = some .globalImplicit := by decide +kernel
theorem lk__law_no_state_moves : (defScope st__law_no_state).names.lookup ("moves" : Str) = some .globalImplicit := by decide +kernel
theorem lk__law_no_state_state : (defScope st__law_no_state).names.lookup ("state" : Str) = some .local := by decide +kernel
theorem lk__law_no_state_subject : (defScope st__law_no_state).names.lookup ("subject" : Str) = some .local := by decide +kernel
theorem cal__law_no_state (T : Txt K mg) : Cal0 P w K mg base 7 "_law_no_state" 2 m__law_no_state := by
  refine Cal0.of (k := 6) (m := 0) (f := b__law_no_state) T.fn__law_no_state sc__law_no_state rfl rfl fun H0 => ?_
  have h_moves : Cal ⟨P, w, K, mg, base, ["subject", "state"], defScope st__law_no_state, fun _ => true, 6, H0, []⟩ "moves" 2 m_moves := (cal_moves T).cal (by decide)
  exact (ss_cons (s_tryN ⟨T.cat_BadRighting⟩ (ss_one (s_ex (e_call h_moves (a_cons (e_var (i := 0) rfl (Or.inl lk__law_no_state_subject)) (a_cons (e_var (i := 1) rfl (Or.inl lk__law_no_state_state)) a_nil)) lk__law_no_state_moves))) h_bl lk__law_no_state_BadRighting) (ss_one (s_ret e_bl)))
theorem sc__law_refused : FnScope ["subject"] ["subject"] (defScope st__law_refused) := ⟨rfl, rfl, rfl, by decide +kernel, rfl, by decide +kernel, by decide +kernel⟩
theorem nd__law_refused : (["subject"] : List Str).Nodup := sc__law_refused.nd
theorem kd__law_refused : (defScope st__law_refused).kind = .function := rfl
theorem lk__law_refused_BadRighting : (defScope st__law_refused).names.lookup ("BadRighting" : Str) = some .globalImplicit := by decide +kernel
theorem lk__law_refused_check_righting : (defScope st__law_refused).names.lookup ("check_righting" : Str) = some .globalImplicit := by decide +kernel
theorem lk__law_refused_subject : (defScope st__law_refused).names.lookup ("subject" : Str) = some .local := by decide +kernel
theorem cal__law_refused (T : Txt K mg) : Cal0 P w K mg base 5 "_law_refused" 1 m__law_refused := by
  refine Cal0.of (k := 4) (m := 0) (f := b__law_refused) T.fn__law_refused sc__law_refused rfl rfl fun H0 => ?_
  have h_check_righting : Cal ⟨P, w, K, mg, base, ["subject"], defScope st__law_refused, fun _ => true, 4, H0, []⟩ "check_righting" 1 m_check_righting := (cal_check_righting T).cal (by decide)
  exact (ss_cons (s_tryN ⟨T.cat_BadRighting⟩ (ss_one (s_ex (e_call h_check_righting (a_cons (e_var (i := 0) rfl (Or.inl lk__law_refused_subject)) a_nil) lk__law_refused_check_righting))) h_bl lk__law_refused_BadRighting) (ss_one (s_ret e_bl)))
theorem sc_lies_within : FnScope ["goal", "state"] ["goal", "state"] (defScope st_lies_within) := ⟨rfl, rfl, rfl, by decide +kernel, rfl, by decide +kernel, by decide +kernel⟩
theorem nd_lies_within : (["goal", "state"] : List Str).Nodup := sc_lies_within.nd
theorem kd_lies_within : (defScope st_lies_within).kind = .function := rfl
theorem lk_lies_within_goal : (defScope st_lies_within).names.lookup ("goal" : Str) = some .local := by decide +kernel
theorem lk_lies_within_state : (defScope st_lies_within).names.lookup ("state" : Str) = some .local := by decide +kernel
theorem cal_lies_within (T : Txt K mg) : Cal0 P w K mg base 1 "lies_within" 2 m_lies_within := by
  refine Cal0.of (k := 0) (m := 0) (f := b_lies_within) T.fn_lies_within sc_lies_within rfl rfl fun H0 => ?_
  exact (ss_one (s_ret (e_and (e_cmp (fun _ A => o_le A) (e_ix (e_var (i := 0) rfl (Or.inl lk_lies_within_goal)) e_int) (e_ix (e_var (i := 1) rfl (Or.inl lk_lies_within_state)) e_int)) (e_one (e_cmp (fun _ A => o_le A) (e_ix (e_var (i := 1) rfl (Or.inl lk_lies_within_state)) e_int) (e_ix (e_var (i := 0) rfl (Or.inl lk_lies_within_goal)) e_int))))))
theorem sc_is_done : FnScope ["subject", "state"] ["subject", "state"] (defScope st_is_done) := ⟨rfl, rfl, rfl, by decide +kernel, rfl, by decide +kernel, by decide +kernel⟩
theorem nd_is_done : (["subject", "state"] : List Str).Nodup := sc_is_done.nd
theorem kd_is_done : (defScope st_is_done).kind = .function := rfl
theorem lk_is_done_check_state : (defScope st_is_done).names.lookup ("check_state" : Str) = some .globalImplicit := by decide +kernel
theorem lk_is_done_lies_within : (defScope st_is_done).names.lookup ("lies_within" : Str) = some .globalImplicit := by decide +kernel
theorem lk_is_done_state : (defScope st_is_done).names.lookup ("state" : Str) = some .local := by decide +kernel
theorem lk_is_done_subject : (defScope st_is_done).names.lookup ("subject" : Str) = some .local := by decide +kernel
theorem cal_is_done (T : Txt K mg) : Cal0 P w K mg base 6 "is_done" 2 m_is_done := by
  refine Cal0.of (k := 5) (m := 0) (f := b_is_done) T.fn_is_done sc_is_done rfl rfl fun H0 => ?_
  have h_check_state : Cal ⟨P, w, K, mg, base, ["subject", "state"], defScope st_is_done, fun _ => true, 5, H0, []⟩ "check_state" 2 m_check_state := (cal_check_state T).cal (by decide)
  have h_lies_within : Cal ⟨P, w, K, mg, base, ["subject", "state"], defScope st_is_done, fun _ => true, 5, H0, []⟩ "lies_within" 2 m_lies_within := (cal_lies_within T).cal (by decide)
  exact (ss_cons (s_ex (e_call h_check_state (a_cons (e_var (i := 0) rfl (Or.inl lk_is_done_subject)) (a_cons (e_var (i := 1) rfl (Or.inl lk_is_done_state)) a_nil)) lk_is_done_check_state)) (ss_one (s_ret (e_call h_lies_within (a_cons (e_ix (e_var (i := 0) rfl (Or.inl lk_is_done_subject)) e_int) (a_cons (e_var (i := 1) rfl (Or.inl lk_is_done_state)) a_nil)) lk_is_done_lies_within))))
theorem sc__law_done : FnScope ["subject", "state"] ["subject", "state"] (defScope st__law_done) := ⟨rfl, rfl, rfl, by decide +kernel, rfl, by decide +kernel, by decide +kernel⟩
theorem nd__law_done : (["subject", "state"] : List Str).Nodup := sc__law_done.nd
theorem kd__law_done : (defScope st__law_done).kind = .function := rfl
theorem lk__law_done_state : (defScope st__law_done).names.lookup ("state" : Str) = some .local := by decide +kernel
theorem lk__law_done_subject : (defScope st__law_done).names.lookup ("subject" : Str) = some .local := by decide +kernel
theorem cal__law_done (T : Txt K mg) : Cal0 P w K mg base 1 "_law_done" 2 m__law_done := by
  refine Cal0.of (k := 0) (m := 0) (f := b__law_done) T.fn__law_done sc__law_done rfl rfl fun H0 => ?_
  exact (ss_one (s_ret (e_and (e_cmp (fun _ A => o_le A) (e_ix (e_ix (e_var (i := 0) rfl (Or.inl lk__law_done_subject)) e_int) e_int) (e_ix (e_var (i := 1) rfl (Or.inl lk__law_done_state)) e_int)) (e_one (e_cmp (fun _ A => o_le A) (e_ix (e_var (i := 1) rfl (Or.inl lk__law_done_state)) e_int) (e_ix (e_ix (e_var (i := 0) rfl (Or.inl lk__law_done_subject)) e_int) e_int))))))
theorem sc__law_outcomes : FnScope ["subject", "state", "move", "cut", "slip"] ["subject", "state", "move"] (defScope st__law_outcomes) := ⟨rfl, rfl, rfl, by decide +kernel, rfl, by decide +kernel, by decide +kernel⟩
theorem nd__law_outcomes : (["subject", "state", "move", "cut", "slip"] : List Str).Nodup := sc__law_outcomes.nd
theorem kd__law_outcomes : (defScope st__law_outcomes).kind = .function := rfl
theorem lk__law_outcomes_cut : (defScope st__law_outcomes).names.lookup ("cut" : Str) = some .local := by decide +kernel
theorem lk__law_outcomes_move : (defScope st__law_outcomes).names.lookup ("move" : Str) = some .local := by decide +kernel
theorem lk__law_outcomes_slip : (defScope st__law_outcomes).names.lookup ("slip" : Str) = some .local := by decide +kernel
theorem lk__law_outcomes_state : (defScope st__law_outcomes).names.lookup ("state" : Str) = some .local := by decide +kernel
theorem lk__law_outcomes_subject : (defScope st__law_outcomes).names.lookup ("subject" : Str) = some .local := by decide +kernel
theorem cal__law_outcomes (T : Txt K mg) : Cal0 P w K mg base 1 "_law_outcomes" 3 m__law_outcomes := by
  refine Cal0.of (k := 0) (m := 2) (f := b__law_outcomes) T.fn__law_outcomes sc__law_outcomes rfl rfl fun H0 => ?_
  exact (ss_cons (s_if (t_cmp (fun _ A => o_eq A) (e_ix (e_var (i := 2) rfl (Or.inl lk__law_outcomes_move)) e_int) e_str) (ss_one (s_ret (e_tup (a_cons (e_tup (a_cons (e_ix (e_var (i := 1) rfl (Or.inl lk__law_outcomes_state)) e_int) (a_cons (e_ix (e_var (i := 2) rfl (Or.inl lk__law_outcomes_move)) e_int) a_nil))) (a_cons (e_tup (a_cons (e_bin (fun _ A => o_add A) (e_ix (e_var (i := 2) rfl (Or.inl lk__law_outcomes_move)) e_int) e_int) (a_cons (e_ix (e_var (i := 1) rfl (Or.inl lk__law_outcomes_state)) e_int) a_nil))) a_nil))))) ss_nil) (ss_cons (s_set ⟨nd__law_outcomes, rfl, Or.inl lk__law_outcomes_cut, Or.inl rfl⟩ (e_ix (e_ix (e_ix (e_var (i := 0) rfl (Or.inl lk__law_outcomes_subject)) e_int) (e_ix (e_var (i := 2) rfl (Or.inl lk__law_outcomes_move)) e_int)) e_int)) (ss_cons (s_set ⟨nd__law_outcomes, rfl, Or.inl lk__law_outcomes_slip, Or.inl rfl⟩ (e_ix (e_ix (e_ix (e_var (i := 0) rfl (Or.inl lk__law_outcomes_subject)) e_int) (e_ix (e_var (i := 2) rfl (Or.inl lk__law_outcomes_move)) e_int)) e_int)) (ss_one (s_ret (e_tup (a_cons (e_tup (a_cons (e_bin (fun _ A => o_sub A) (e_bin (fun _ A => o_sub A) (e_ix (e_var (i := 1) rfl (Or.inl lk__law_outcomes_state)) e_int) (e_var (i := 3) rfl (Or.inl lk__law_outcomes_cut))) (e_var (i := 4) rfl (Or.inl lk__law_outcomes_slip))) (a_cons (e_bin (fun _ A => o_add A) (e_bin (fun _ A => o_sub A) (e_ix (e_var (i := 1) rfl (Or.inl lk__law_outcomes_state)) e_int) (e_var (i := 3) rfl (Or.inl lk__law_outcomes_cut))) (e_var (i := 4) rfl (Or.inl lk__law_outcomes_slip))) a_nil))) a_nil)))))))
theorem sc_law : FnScope ["script", "pool", "subject", "state", "t", "odd", "bad", "due", "move", "word", "told", "expected"] ["script"] (defScope st_law) := ⟨rfl, rfl, rfl, by decide +kernel, rfl, by decide +kernel, by decide +kernel⟩
theorem nd_law : (["script", "pool", "subject", "state", "t", "odd", "bad", "due", "move", "word", "told", "expected"] : List Str).Nodup := sc_law.nd
theorem kd_law : (defScope st_law).kind = .function := rfl
theorem lk_law__law_at : (defScope st_law).names.lookup ("_law_at" : Str) = some .globalImplicit := by decide +kernel
theorem lk_law__law_bad_subjects : (defScope st_law).names.lookup ("_law_bad_subjects" : Str) = some .globalImplicit := by decide +kernel
theorem lk_law__law_done : (defScope st_law).names.lookup ("_law_done" : Str) = some .globalImplicit := by decide +kernel
theorem lk_law__law_moves : (defScope st_law).names.lookup ("_law_moves" : Str) = some .globalImplicit := by decide +kernel
theorem lk_law__law_no_state : (defScope st_law).names.lookup ("_law_no_state" : Str) = some .globalImplicit := by decide +kernel
theorem lk_law__law_outcomes : (defScope st_law).names.lookup ("_law_outcomes" : Str) = some .globalImplicit := by decide +kernel
theorem lk_law__law_pool : (defScope st_law).names.lookup ("_law_pool" : Str) = some .globalImplicit := by decide +kernel
theorem lk_law__law_refused : (defScope st_law).names.lookup ("_law_refused" : Str) = some .globalImplicit := by decide +kernel
theorem lk_law__law_righting : (defScope st_law).names.lookup ("_law_righting" : Str) = some .globalImplicit := by decide +kernel
theorem lk_law__law_same : (defScope st_law).names.lookup ("_law_same" : Str) = some .globalImplicit := by decide +kernel
theorem lk_law__law_states : (defScope st_law).names.lookup ("_law_states" : Str) = some .globalImplicit := by decide +kernel
theorem lk_law_bad : (defScope st_law).names.lookup ("bad" : Str) = some .local := by decide +kernel
theorem lk_law_check_righting : (defScope st_law).names.lookup ("check_righting" : Str) = some .globalImplicit := by decide +kernel
theorem lk_law_due : (defScope st_law).names.lookup ("due" : Str) = some .local := by decide +kernel
theorem lk_law_expected : (defScope st_law).names.lookup ("expected" : Str) = some .local := by decide +kernel
theorem lk_law_int : (defScope st_law).names.lookup ("int" : Str) = some .globalImplicit := by decide +kernel
theorem lk_law_is_done : (defScope st_law).names.lookup ("is_done" : Str) = some .globalImplicit := by decide +kernel
theorem lk_law_len : (defScope st_law).names.lookup ("len" : Str) = some .globalImplicit := by decide +kernel
theorem lk_law_move : (defScope st_law).names.lookup ("move" : Str) = some .local := by decide +kernel
theorem lk_law_moves : (defScope st_law).names.lookup ("moves" : Str) = some .globalImplicit := by decide +kernel
theorem lk_law_odd : (defScope st_law).names.lookup ("odd" : Str) = some .local := by decide +kernel
theorem lk_law_outcomes : (defScope st_law).names.lookup ("outcomes" : Str) = some .globalImplicit := by decide +kernel
theorem lk_law_pool : (defScope st_law).names.lookup ("pool" : Str) = some .local := by decide +kernel
theorem lk_law_range : (defScope st_law).names.lookup ("range" : Str) = some .globalImplicit := by decide +kernel
theorem lk_law_script : (defScope st_law).names.lookup ("script" : Str) = some .local := by decide +kernel
theorem lk_law_state : (defScope st_law).names.lookup ("state" : Str) = some .local := by decide +kernel
theorem lk_law_subject : (defScope st_law).names.lookup ("subject" : Str) = some .local := by decide +kernel
theorem lk_law_t : (defScope st_law).names.lookup ("t" : Str) = some .local := by decide +kernel
theorem lk_law_told : (defScope st_law).names.lookup ("told" : Str) = some .local := by decide +kernel
theorem lk_law_tuple : (defScope st_law).names.lookup ("tuple" : Str) = some .globalImplicit := by decide +kernel
theorem lk_law_word : (defScope st_law).names.lookup ("word" : Str) = some .local := by decide +kernel
theorem fnok_law (T : Txt K mg) {f : Addr} {fd : FuncData} (F : L2.Fun K "law" "law" st_law f fd) : FnOk P w K mg base (L2.CX P w) 42 f fd ["script"] (spF K mg 1 m_law) := by
  refine fn_ok (k := 41) (m := 11) (f := b_law) F sc_law rfl rfl fun H0 => ?_
  have h__law_pool : Cal ⟨P, w, K, mg, base, ["script", "pool", "subject", "state", "t", "odd", "bad", "due", "move", "word", "told", "expected"], defScope st_law, fun _ => true, 41, H0, []⟩ "_law_pool" 1 m__law_pool := (cal__law_pool T).cal (by decide)
  have h__law_at : Cal ⟨P, w, K, mg, base, ["script", "pool", "subject", "state", "t", "odd", "bad", "due", "move", "word", "told", "expected"], defScope st_law, fun _ => true, 41, H0, []⟩ "_law_at" 2 m__law_at := (cal__law_at T).cal (by decide)
  have h__law_righting : Cal ⟨P, w, K, mg, base, ["script", "pool", "subject", "state", "t", "odd", "bad", "due", "move", "word", "told", "expected"], defScope st_law, fun _ => true, 41, H0, []⟩ "_law_righting" 2 m__law_righting := (cal__law_righting T).cal (by decide)
  have h__law_states : Cal ⟨P, w, K, mg, base, ["script", "pool", "subject", "state", "t", "odd", "bad", "due", "move", "word", "told", "expected"], defScope st_law, fun _ => true, 41, H0, []⟩ "_law_states" 1 m__law_states := (cal__law_states T).cal (by decide)
  have h__law_bad_subjects : Cal ⟨P, w, K, mg, base, ["script", "pool", "subject", "state", "t", "odd", "bad", "due", "move", "word", "told", "expected"], defScope st_law, fun _ => true, 41, H0, []⟩ "_law_bad_subjects" 1 m__law_bad_subjects := (cal__law_bad_subjects T).cal (by decide)
  have h_check_righting : Cal ⟨P, w, K, mg, base, ["script", "pool", "subject", "state", "t", "odd", "bad", "due", "move", "word", "told", "expected"], defScope st_law, fun _ => true, 41, H0, []⟩ "check_righting" 1 m_check_righting := (cal_check_righting T).cal (by decide)
  have h__law_moves : Cal ⟨P, w, K, mg, base, ["script", "pool", "subject", "state", "t", "odd", "bad", "due", "move", "word", "told", "expected"], defScope st_law, fun _ => true, 41, H0, []⟩ "_law_moves" 2 m__law_moves := (cal__law_moves T).cal (by decide)
  have h__law_same : Cal ⟨P, w, K, mg, base, ["script", "pool", "subject", "state", "t", "odd", "bad", "due", "move", "word", "told", "expected"], defScope st_law, fun _ => true, 41, H0, []⟩ "_law_same" 2 m__law_same := (cal__law_same T).cal (by decide)
  have h_outcomes : Cal ⟨P, w, K, mg, base, ["script", "pool", "subject", "state", "t", "odd", "bad", "due", "move", "word", "told", "expected"], defScope st_law, fun _ => true, 41, H0, []⟩ "outcomes" 3 m_outcomes := (cal_outcomes T).cal (by decide)
  have h_moves : Cal ⟨P, w, K, mg, base, ["script", "pool", "subject", "state", "t", "odd", "bad", "due", "move", "word", "told", "expected"], defScope st_law, fun _ => true, 41, H0, []⟩ "moves" 2 m_moves := (cal_moves T).cal (by decide)
  have h__law_no_state : Cal ⟨P, w, K, mg, base, ["script", "pool", "subject", "state", "t", "odd", "bad", "due", "move", "word", "told", "expected"], defScope st_law, fun _ => true, 41, H0, []⟩ "_law_no_state" 2 m__law_no_state := (cal__law_no_state T).cal (by decide)
  have h__law_refused : Cal ⟨P, w, K, mg, base, ["script", "pool", "subject", "state", "t", "odd", "bad", "due", "move", "word", "told", "expected"], defScope st_law, fun _ => true, 41, H0, []⟩ "_law_refused" 1 m__law_refused := (cal__law_refused T).cal (by decide)
  have h_is_done : Cal ⟨P, w, K, mg, base, ["script", "pool", "subject", "state", "t", "odd", "bad", "due", "move", "word", "told", "expected"], defScope st_law, fun _ => true, 41, H0, []⟩ "is_done" 2 m_is_done := (cal_is_done T).cal (by decide)
  have h__law_done : Cal ⟨P, w, K, mg, base, ["script", "pool", "subject", "state", "t", "odd", "bad", "due", "move", "word", "told", "expected"], defScope st_law, fun _ => true, 41, H0, []⟩ "_law_done" 2 m__law_done := (cal__law_done T).cal (by decide)
  have h__law_outcomes : Cal ⟨P, w, K, mg, base, ["script", "pool", "subject", "state", "t", "odd", "bad", "due", "move", "word", "told", "expected"], defScope st_law, fun _ => true, 41, H0, []⟩ "_law_outcomes" 3 m__law_outcomes := (cal__law_outcomes T).cal (by decide)
  exact (ss_cons (s_set ⟨nd_law, rfl, Or.inl lk_law_pool, Or.inl rfl⟩ (e_call h__law_pool (a_cons (e_var (i := 0) rfl (Or.inl lk_law_script)) a_nil) lk_law__law_pool)) (ss_cons (s_set ⟨nd_law, rfl, Or.inl lk_law_subject, Or.inl rfl⟩ (e_call h__law_righting (a_cons (e_var (i := 1) rfl (Or.inl lk_law_pool)) (a_cons e_int a_nil)) lk_law__law_righting)) (ss_cons (s_if (t_cmp (fun _ A => o_isnot A) (e_call h_check_righting (a_cons (e_var (i := 2) rfl (Or.inl lk_law_subject)) a_nil) lk_law_check_righting) e_non) (ss_one (s_ret e_bl)) ss_nil) (ss_cons (s_for (i_val (e_call h__law_states (a_cons (e_ix (e_var (i := 2) rfl (Or.inl lk_law_subject)) e_int) a_nil) lk_law__law_states)) (g_nm ⟨nd_law, rfl, Or.inl lk_law_state, Or.inl rfl⟩) (ss_cons (s_set ⟨nd_law, rfl, Or.inl lk_law_due, Or.inl rfl⟩ (e_call h__law_moves (a_cons (e_var (i := 2) rfl (Or.inl lk_law_subject)) (a_cons (e_var (i := 3) rfl (Or.inl lk_law_state)) a_nil)) lk_law__law_moves)) (ss_cons (s_if (t_not (t_tru (e_call h__law_same (a_cons (e_call h_is_done (a_cons (e_var (i := 2) rfl (Or.inl lk_law_subject)) (a_cons (e_var (i := 3) rfl (Or.inl lk_law_state)) a_nil)) lk_law_is_done) (a_cons (e_call h__law_done (a_cons (e_var (i := 2) rfl (Or.inl lk_law_subject)) (a_cons (e_var (i := 3) rfl (Or.inl lk_law_state)) a_nil)) lk_law__law_done) a_nil)) lk_law__law_same))) (ss_one (s_ret e_bl)) ss_nil) (ss_cons (s_if (t_not (t_tru (e_call h__law_same (a_cons (e_call h_moves (a_cons (e_var (i := 2) rfl (Or.inl lk_law_subject)) (a_cons (e_var (i := 3) rfl (Or.inl lk_law_state)) a_nil)) lk_law_moves) (a_cons (e_cty (fun _ A => c_tup A) T.no_tuple rfl (a_cons (e_var (i := 7) rfl (Or.inl lk_law_due)) a_nil) lk_law_tuple) a_nil)) lk_law__law_same))) (ss_one (s_ret e_bl)) ss_nil) (ss_one (s_for (i_val (e_var (i := 7) rfl (Or.inl lk_law_due))) (g_nm ⟨nd_law, rfl, Or.inl lk_law_move, Or.inl rfl⟩) (ss_one (s_if (t_not (t_tru (e_call h__law_same (a_cons (e_call h_outcomes (a_cons (e_var (i := 2) rfl (Or.inl lk_law_subject)) (a_cons (e_var (i := 3) rfl (Or.inl lk_law_state)) (a_cons (e_var (i := 8) rfl (Or.inl lk_law_move)) a_nil))) lk_law_outcomes) (a_cons (e_call h__law_outcomes (a_cons (e_var (i := 2) rfl (Or.inl lk_law_subject)) (a_cons (e_var (i := 3) rfl (Or.inl lk_law_state)) (a_cons (e_var (i := 8) rfl (Or.inl lk_law_move)) a_nil))) lk_law__law_outcomes) a_nil)) lk_law__law_same))) (ss_one (s_ret e_bl)) ss_nil)))))))) (ss_cons (s_set ⟨nd_law, rfl, Or.inl lk_law_state, Or.inl rfl⟩ (e_ix (e_call h__law_states (a_cons (e_ix (e_var (i := 2) rfl (Or.inl lk_law_subject)) e_int) a_nil) lk_law__law_states) (e_bin (fun _ A => o_mod A) (e_cty (fun _ A => c_int A) T.no_int rfl (a_cons (e_call h__law_at (a_cons (e_var (i := 1) rfl (Or.inl lk_law_pool)) (a_cons e_int a_nil)) lk_law__law_at) a_nil) lk_law_int) (e_cb (fun _ A => c_len A) T.no_len rfl (a_cons (e_call h__law_states (a_cons (e_ix (e_var (i := 2) rfl (Or.inl lk_law_subject)) e_int) a_nil) lk_law__law_states) a_nil) lk_law_len)))) (ss_cons (s_for (i_rg2 T.no_range (a_cons (e_un (fun _ A => o_neg A) e_int) (a_cons e_int a_nil)) lk_law_range) (g_nm ⟨nd_law, rfl, Or.inl lk_law_t, Or.inl rfl⟩) (ss_one (s_for (i_val (e_lst (a_cons e_str (a_cons e_str (a_cons e_str a_nil))))) (g_nm ⟨nd_law, rfl, Or.inl lk_law_word, Or.inl rfl⟩) (ss_cons (s_set ⟨nd_law, rfl, Or.inl lk_law_told, Or.inl rfl⟩ (e_call h_outcomes (a_cons (e_var (i := 2) rfl (Or.inl lk_law_subject)) (a_cons (e_var (i := 3) rfl (Or.inl lk_law_state)) (a_cons (e_tup (a_cons (e_var (i := 9) rfl (Or.inl lk_law_word)) (a_cons (e_var (i := 4) rfl (Or.inl lk_law_t)) a_nil))) a_nil))) lk_law_outcomes)) (ss_cons (s_set ⟨nd_law, rfl, Or.inl lk_law_expected, Or.inl rfl⟩ e_non) (ss_cons (s_if (t_cmp (fun _ A => o_in A) (e_tup (a_cons (e_var (i := 9) rfl (Or.inl lk_law_word)) (a_cons (e_var (i := 4) rfl (Or.inl lk_law_t)) a_nil))) (e_call h__law_moves (a_cons (e_var (i := 2) rfl (Or.inl lk_law_subject)) (a_cons (e_var (i := 3) rfl (Or.inl lk_law_state)) a_nil)) lk_law__law_moves)) (ss_one (s_set ⟨nd_law, rfl, Or.inl lk_law_expected, Or.inl rfl⟩ (e_call h__law_outcomes (a_cons (e_var (i := 2) rfl (Or.inl lk_law_subject)) (a_cons (e_var (i := 3) rfl (Or.inl lk_law_state)) (a_cons (e_tup (a_cons (e_var (i := 9) rfl (Or.inl lk_law_word)) (a_cons (e_var (i := 4) rfl (Or.inl lk_law_t)) a_nil))) a_nil))) lk_law__law_outcomes))) ss_nil) (ss_one (s_if (t_not (t_tru (e_call h__law_same (a_cons (e_var (i := 10) rfl (Or.inl lk_law_told)) (a_cons (e_var (i := 11) rfl (Or.inl lk_law_expected)) a_nil)) lk_law__law_same))) (ss_one (s_ret e_bl)) ss_nil)))))))) (ss_cons (s_for (i_val (e_lst (a_cons (e_tup (a_cons e_str (a_cons e_bl a_nil))) (a_cons (e_tup (a_cons e_str (a_cons e_bl a_nil))) (a_cons (e_tup (a_cons e_str (a_cons e_bl a_nil))) (a_cons (e_tup (a_cons e_str a_nil)) (a_cons (e_lst (a_cons e_str (a_cons e_int a_nil))) (a_cons e_non (a_cons e_str (a_cons (e_tup (a_cons e_str (a_cons e_int (a_cons e_int a_nil)))) a_nil)))))))))) (g_nm ⟨nd_law, rfl, Or.inl lk_law_odd, Or.inl rfl⟩) (ss_one (s_if (t_cmp (fun _ A => o_isnot A) (e_call h_outcomes (a_cons (e_var (i := 2) rfl (Or.inl lk_law_subject)) (a_cons (e_var (i := 3) rfl (Or.inl lk_law_state)) (a_cons (e_var (i := 5) rfl (Or.inl lk_law_odd)) a_nil))) lk_law_outcomes) e_non) (ss_one (s_ret e_bl)) ss_nil))) (ss_cons (s_for (i_val (e_lst (a_cons (e_tup (a_cons e_int (a_cons (e_bin (fun _ A => o_add A) (e_ix (e_var (i := 2) rfl (Or.inl lk_law_subject)) e_int) e_int) a_nil))) (a_cons (e_tup (a_cons e_int (a_cons e_int a_nil))) (a_cons (e_tup (a_cons (e_un (fun _ A => o_neg A) e_int) (a_cons e_int a_nil))) (a_cons (e_tup (a_cons e_bl (a_cons e_int a_nil))) (a_cons (e_tup (a_cons e_int a_nil)) (a_cons (e_lst (a_cons e_int (a_cons e_int a_nil))) (a_cons e_non a_nil))))))))) (g_nm ⟨nd_law, rfl, Or.inl lk_law_odd, Or.inl rfl⟩) (ss_one (s_if (t_not (t_tru (e_call h__law_no_state (a_cons (e_var (i := 2) rfl (Or.inl lk_law_subject)) (a_cons (e_var (i := 5) rfl (Or.inl lk_law_odd)) a_nil)) lk_law__law_no_state))) (ss_one (s_ret e_bl)) ss_nil))) (ss_cons (s_for (i_val (e_call h__law_bad_subjects (a_cons (e_var (i := 2) rfl (Or.inl lk_law_subject)) a_nil) lk_law__law_bad_subjects)) (g_nm ⟨nd_law, rfl, Or.inl lk_law_bad, Or.inl rfl⟩) (ss_one (s_if (t_not (t_tru (e_call h__law_refused (a_cons (e_var (i := 6) rfl (Or.inl lk_law_bad)) a_nil) lk_law__law_refused))) (ss_one (s_ret e_bl)) ss_nil))) (ss_one (s_ret e_bl)))))))))))
end
theorem all_mk {l : PySem.W.OpenLaw} {w : World} {K : PySem.W.Frag} {h : Heap} {mg : Str → Option Value} {fa : Addr} (X : K.In h) (G : h.Ns mainGlobals mg) (hfa : mg "law" = some (.ref fa)) (hF : ∀ ns : List Int, ns.length ≤ 63 → m_law [.scr ns] = .ok (.v (.bl true)))
    {C_BadRighting : Addr} {t_DEEPEST : Tok} {t_MOST_FILES : Tok} {t_MOST_GAUGES : Tok} {f__law_pool : Addr} {oc__law_pool : Value} {kV__law_pool : Value} {dc__law_pool : Value} {pm__law_pool : Value} {cd__law_pool : Value} {ct__law_pool : Value} {od__law_pool : Option Addr} {an__law_pool : Option Addr} {sl__law_pool : Array (Option Value)} {f__law_pair : Addr} {oc__law_pair : Value} {kV__law_pair : Value} {dc__law_pair : Value} {pm__law_pair : Value} {cd__law_pair : Value} {ct__law_pair : Value} {od__law_pair : Option Addr} {an__law_pair : Option Addr} {sl__law_pair : Array (Option Value)} {f__law_at : Addr} {oc__law_at : Value} {kV__law_at : Value} {dc__law_at : Value} {pm__law_at : Value} {cd__law_at : Value} {ct__law_at : Value} {od__law_at : Option Addr} {an__law_at : Option Addr} {sl__law_at : Array (Option Value)} {f__law_righting : Addr} {oc__law_righting : Value} {kV__law_righting : Value} {dc__law_righting : Value} {pm__law_righting : Value} {cd__law_righting : Value} {ct__law_righting : Value} {od__law_righting : Option Addr} {an__law_righting : Option Addr} {sl__law_righting : Array (Option Value)} {f__law_states : Addr} {oc__law_states : Value} {kV__law_states : Value} {dc__law_states : Value} {pm__law_states : Value} {cd__law_states : Value} {ct__law_states : Value} {od__law_states : Option Addr} {an__law_states : Option Addr} {sl__law_states : Array (Option Value)} {f__law_bad_subjects : Addr} {oc__law_bad_subjects : Value} {kV__law_bad_subjects : Value} {dc__law_bad_subjects : Value} {pm__law_bad_subjects : Value} {cd__law_bad_subjects : Value} {ct__law_bad_subjects : Value} {od__law_bad_subjects : Option Addr} {an__law_bad_subjects : Option Addr} {sl__law_bad_subjects : Array (Option Value)} {f_is_tuple_of : Addr} {oc_is_tuple_of : Value} {kV_is_tuple_of : Value} {dc_is_tuple_of : Value} {pm_is_tuple_of : Value} {cd_is_tuple_of : Value} {ct_is_tuple_of : Value} {od_is_tuple_of : Option Addr} {an_is_tuple_of : Option Addr} {sl_is_tuple_of : Array (Option Value)} {f_is_whole : Addr} {oc_is_whole : Value} {kV_is_whole : Value} {dc_is_whole : Value} {pm_is_whole : Value} {cd_is_whole : Value} {ct_is_whole : Value} {od_is_whole : Option Addr} {an_is_whole : Option Addr} {sl_is_whole : Array (Option Value)} {f_is_whole_in : Addr} {oc_is_whole_in : Value} {kV_is_whole_in : Value} {dc_is_whole_in : Value} {pm_is_whole_in : Value} {cd_is_whole_in : Value} {ct_is_whole_in : Value} {od_is_whole_in : Option Addr} {an_is_whole_in : Option Addr} {sl_is_whole_in : Array (Option Value)} {f_is_state : Addr} {oc_is_state : Value} {kV_is_state : Value} {dc_is_state : Value} {pm_is_state : Value} {cd_is_state : Value} {ct_is_state : Value} {od_is_state : Option Addr} {an_is_state : Option Addr} {sl_is_state : Array (Option Value)} {f_is_rising : Addr} {oc_is_rising : Value} {kV_is_rising : Value} {dc_is_rising : Value} {pm_is_rising : Value} {cd_is_rising : Value} {ct_is_rising : Value} {od_is_rising : Option Addr} {an_is_rising : Option Addr} {sl_is_rising : Array (Option Value)} {f_is_file : Addr} {oc_is_file : Value} {kV_is_file : Value} {dc_is_file : Value} {pm_is_file : Value} {cd_is_file : Value} {ct_is_file : Value} {od_is_file : Option Addr} {an_is_file : Option Addr} {sl_is_file : Array (Option Value)} {f_check_righting : Addr} {oc_check_righting : Value} {kV_check_righting : Value} {dc_check_righting : Value} {pm_check_righting : Value} {cd_check_righting : Value} {ct_check_righting : Value} {od_check_righting : Option Addr} {an_check_righting : Option Addr} {sl_check_righting : Array (Option Value)} {f__law_moves : Addr} {oc__law_moves : Value} {kV__law_moves : Value} {dc__law_moves : Value} {pm__law_moves : Value} {cd__law_moves : Value} {ct__law_moves : Value} {od__law_moves : Option Addr} {an__law_moves : Option Addr} {sl__law_moves : Array (Option Value)} {f__law_same : Addr} {oc__law_same : Value} {kV__law_same : Value} {dc__law_same : Value} {pm__law_same : Value} {cd__law_same : Value} {ct__law_same : Value} {od__law_same : Option Addr} {an__law_same : Option Addr} {sl__law_same : Array (Option Value)} {f_check_state : Addr} {oc_check_state : Value} {kV_check_state : Value} {dc_check_state : Value} {pm_check_state : Value} {cd_check_state : Value} {ct_check_state : Value} {od_check_state : Option Addr} {an_check_state : Option Addr} {sl_check_state : Array (Option Value)} {f_outcomes_at : Addr} {oc_outcomes_at : Value} {kV_outcomes_at : Value} {dc_outcomes_at : Value} {pm_outcomes_at : Value} {cd_outcomes_at : Value} {ct_outcomes_at : Value} {od_outcomes_at : Option Addr} {an_outcomes_at : Option Addr} {sl_outcomes_at : Array (Option Value)} {f_moves_at : Addr} {oc_moves_at : Value} {kV_moves_at : Value} {dc_moves_at : Value} {pm_moves_at : Value} {cd_moves_at : Value} {ct_moves_at : Value} {od_moves_at : Option Addr} {an_moves_at : Option Addr} {sl_moves_at : Array (Option Value)} {f_is_move_at : Addr} {oc_is_move_at : Value} {kV_is_move_at : Value} {dc_is_move_at : Value} {pm_is_move_at : Value} {cd_is_move_at : Value} {ct_is_move_at : Value} {od_is_move_at : Option Addr} {an_is_move_at : Option Addr} {sl_is_move_at : Array (Option Value)} {f_outcomes : Addr} {oc_outcomes : Value} {kV_outcomes : Value} {dc_outcomes : Value} {pm_outcomes : Value} {cd_outcomes : Value} {ct_outcomes : Value} {od_outcomes : Option Addr} {an_outcomes : Option Addr} {sl_outcomes : Array (Option Value)} {f_moves : Addr} {oc_moves : Value} {kV_moves : Value} {dc_moves : Value} {pm_moves : Value} {cd_moves : Value} {ct_moves : Value} {od_moves : Option Addr} {an_moves : Option Addr} {sl_moves : Array (Option Value)} {f__law_no_state : Addr} {oc__law_no_state : Value} {kV__law_no_state : Value} {dc__law_no_state : Value} {pm__law_no_state : Value} {cd__law_no_state : Value} {ct__law_no_state : Value} {od__law_no_state : Option Addr} {an__law_no_state : Option Addr} {sl__law_no_state : Array (Option Value)} {f__law_refused : Addr} {oc__law_refused : Value} {kV__law_refused : Value} {dc__law_refused : Value} {pm__law_refused : Value} {cd__law_refused : Value} {ct__law_refused : Value} {od__law_refused : Option Addr} {an__law_refused : Option Addr} {sl__law_refused : Array (Option Value)} {f_lies_within : Addr} {oc_lies_within : Value} {kV_lies_within : Value} {dc_lies_within : Value} {pm_lies_within : Value} {cd_lies_within : Value} {ct_lies_within : Value} {od_lies_within : Option Addr} {an_lies_within : Option Addr} {sl_lies_within : Array (Option Value)} {f_is_done : Addr} {oc_is_done : Value} {kV_is_done : Value} {dc_is_done : Value} {pm_is_done : Value} {cd_is_done : Value} {ct_is_done : Value} {od_is_done : Option Addr} {an_is_done : Option Addr} {sl_is_done : Array (Option Value)} {f__law_done : Addr} {oc__law_done : Value} {kV__law_done : Value} {dc__law_done : Value} {pm__law_done : Value} {cd__law_done : Value} {ct__law_done : Value} {od__law_done : Option Addr} {an__law_done : Option Addr} {sl__law_done : Array (Option Value)} {f__law_outcomes : Addr} {oc__law_outcomes : Value} {kV__law_outcomes : Value} {dc__law_outcomes : Value} {pm__law_outcomes : Value} {cd__law_outcomes : Value} {ct__law_outcomes : Value} {od__law_outcomes : Option Addr} {an__law_outcomes : Option Addr} {sl__law_outcomes : Array (Option Value)} {f_law : Addr} {oc_law : Value} {kV_law : Value} {dc_law : Value} {pm_law : Value} {cd_law : Value} {ct_law : Value} {od_law : Option Addr} {an_law : Option Addr} {sl_law : Array (Option Value)}
    (g_BadRighting : PySem.W.nsIn K mainGlobals "BadRighting" = some (some (.ref C_BadRighting)))
    (s_BadRighting : PySem.W.subIn K (.ref C_BadRighting) (.type "BaseException") = some true)
    (t_BadRighting : PySem.W.typeIn K (.ref C_BadRighting) = some (.type "type"))
    (e_BadRighting : PySem.W.excIn K C_BadRighting [.type "ValueError", .type "Exception", .type "BaseException", .type "object"] "ValueError.__new__" = true)
    (k_BadRighting : PySem.W.keepIn K (.ref C_BadRighting) = true)
    (d_BadRighting : PySem.W.hasDictIn K C_BadRighting = true)
    (ct_BadRighting_BadRighting : PySem.W.subIn K (.ref C_BadRighting) (.ref C_BadRighting) = some true)
    (v_DEEPEST : PySem.W.nsIn K mainGlobals "DEEPEST" = some (some (.int 12 t_DEEPEST)))
    (v_MOST_FILES : PySem.W.nsIn K mainGlobals "MOST_FILES" = some (some (.int 4 t_MOST_FILES)))
    (v_MOST_GAUGES : PySem.W.nsIn K mainGlobals "MOST_GAUGES" = some (some (.int 6 t_MOST_GAUGES)))
    (n_abs : PySem.W.nsIn K mainGlobals "abs" = some none)
    (n_all : PySem.W.nsIn K mainGlobals "all" = some none)
    (n_bool : PySem.W.nsIn K mainGlobals "bool" = some none)
    (n_enumerate : PySem.W.nsIn K mainGlobals "enumerate" = some none)
    (n_int : PySem.W.nsIn K mainGlobals "int" = some none)
    (n_isinstance : PySem.W.nsIn K mainGlobals "isinstance" = some none)
    (n_len : PySem.W.nsIn K mainGlobals "len" = some none)
    (n_list : PySem.W.nsIn K mainGlobals "list" = some none)
    (n_min : PySem.W.nsIn K mainGlobals "min" = some none)
    (n_range : PySem.W.nsIn K mainGlobals "range" = some none)
    (n_str : PySem.W.nsIn K mainGlobals "str" = some none)
    (n_tuple : PySem.W.nsIn K mainGlobals "tuple" = some none)
    (a__law_pool : PySem.W.nsIn K mainGlobals "_law_pool" = some (some (.ref f__law_pool)))
    (l__law_pool : K.lookup f__law_pool = some ⟨oc__law_pool, od__law_pool, .func (PySem.W.fnOf "_law_pool" "_law_pool" (defArgs st__law_pool) (defBody st__law_pool) (defScope st__law_pool) .none kV__law_pool dc__law_pool pm__law_pool an__law_pool cd__law_pool ct__law_pool), sl__law_pool⟩)
    (c__law_pool : PySem.W.codeIn K cd__law_pool "_law_pool" = true)
    (k__law_pool : PySem.W.keepIn K (.ref f__law_pool) = true)
    (a__law_pair : PySem.W.nsIn K mainGlobals "_law_pair" = some (some (.ref f__law_pair)))
    (l__law_pair : K.lookup f__law_pair = some ⟨oc__law_pair, od__law_pair, .func (PySem.W.fnOf "_law_pair" "_law_pair" (defArgs st__law_pair) (defBody st__law_pair) (defScope st__law_pair) .none kV__law_pair dc__law_pair pm__law_pair an__law_pair cd__law_pair ct__law_pair), sl__law_pair⟩)
    (c__law_pair : PySem.W.codeIn K cd__law_pair "_law_pair" = true)
    (k__law_pair : PySem.W.keepIn K (.ref f__law_pair) = true)
    (a__law_at : PySem.W.nsIn K mainGlobals "_law_at" = some (some (.ref f__law_at)))
    (l__law_at : K.lookup f__law_at = some ⟨oc__law_at, od__law_at, .func (PySem.W.fnOf "_law_at" "_law_at" (defArgs st__law_at) (defBody st__law_at) (defScope st__law_at) .none kV__law_at dc__law_at pm__law_at an__law_at cd__law_at ct__law_at), sl__law_at⟩)
    (c__law_at : PySem.W.codeIn K cd__law_at "_law_at" = true)
    (k__law_at : PySem.W.keepIn K (.ref f__law_at) = true)
    (a__law_righting : PySem.W.nsIn K mainGlobals "_law_righting" = some (some (.ref f__law_righting)))
    (l__law_righting : K.lookup f__law_righting = some ⟨oc__law_righting, od__law_righting, .func (PySem.W.fnOf "_law_righting" "_law_righting" (defArgs st__law_righting) (defBody st__law_righting) (defScope st__law_righting) .none kV__law_righting dc__law_righting pm__law_righting an__law_righting cd__law_righting ct__law_righting), sl__law_righting⟩)
    (c__law_righting : PySem.W.codeIn K cd__law_righting "_law_righting" = true)
    (k__law_righting : PySem.W.keepIn K (.ref f__law_righting) = true)
    (a__law_states : PySem.W.nsIn K mainGlobals "_law_states" = some (some (.ref f__law_states)))
    (l__law_states : K.lookup f__law_states = some ⟨oc__law_states, od__law_states, .func (PySem.W.fnOf "_law_states" "_law_states" (defArgs st__law_states) (defBody st__law_states) (defScope st__law_states) .none kV__law_states dc__law_states pm__law_states an__law_states cd__law_states ct__law_states), sl__law_states⟩)
    (c__law_states : PySem.W.codeIn K cd__law_states "_law_states" = true)
    (k__law_states : PySem.W.keepIn K (.ref f__law_states) = true)
    (a__law_bad_subjects : PySem.W.nsIn K mainGlobals "_law_bad_subjects" = some (some (.ref f__law_bad_subjects)))
    (l__law_bad_subjects : K.lookup f__law_bad_subjects = some ⟨oc__law_bad_subjects, od__law_bad_subjects, .func (PySem.W.fnOf "_law_bad_subjects" "_law_bad_subjects" (defArgs st__law_bad_subjects) (defBody st__law_bad_subjects) (defScope st__law_bad_subjects) .none kV__law_bad_subjects dc__law_bad_subjects pm__law_bad_subjects an__law_bad_subjects cd__law_bad_subjects ct__law_bad_subjects), sl__law_bad_subjects⟩)
    (c__law_bad_subjects : PySem.W.codeIn K cd__law_bad_subjects "_law_bad_subjects" = true)
    (k__law_bad_subjects : PySem.W.keepIn K (.ref f__law_bad_subjects) = true)
    (a_is_tuple_of : PySem.W.nsIn K mainGlobals "is_tuple_of" = some (some (.ref f_is_tuple_of)))
    (l_is_tuple_of : K.lookup f_is_tuple_of = some ⟨oc_is_tuple_of, od_is_tuple_of, .func (PySem.W.fnOf "is_tuple_of" "is_tuple_of" (defArgs st_is_tuple_of) (defBody st_is_tuple_of) (defScope st_is_tuple_of) .none kV_is_tuple_of dc_is_tuple_of pm_is_tuple_of an_is_tuple_of cd_is_tuple_of ct_is_tuple_of), sl_is_tuple_of⟩)
    (c_is_tuple_of : PySem.W.codeIn K cd_is_tuple_of "is_tuple_of" = true)
    (k_is_tuple_of : PySem.W.keepIn K (.ref f_is_tuple_of) = true)
    (a_is_whole : PySem.W.nsIn K mainGlobals "is_whole" = some (some (.ref f_is_whole)))
    (l_is_whole : K.lookup f_is_whole = some ⟨oc_is_whole, od_is_whole, .func (PySem.W.fnOf "is_whole" "is_whole" (defArgs st_is_whole) (defBody st_is_whole) (defScope st_is_whole) .none kV_is_whole dc_is_whole pm_is_whole an_is_whole cd_is_whole ct_is_whole), sl_is_whole⟩)
    (c_is_whole : PySem.W.codeIn K cd_is_whole "is_whole" = true)
    (k_is_whole : PySem.W.keepIn K (.ref f_is_whole) = true)
    (a_is_whole_in : PySem.W.nsIn K mainGlobals "is_whole_in" = some (some (.ref f_is_whole_in)))
    (l_is_whole_in : K.lookup f_is_whole_in = some ⟨oc_is_whole_in, od_is_whole_in, .func (PySem.W.fnOf "is_whole_in" "is_whole_in" (defArgs st_is_whole_in) (defBody st_is_whole_in) (defScope st_is_whole_in) .none kV_is_whole_in dc_is_whole_in pm_is_whole_in an_is_whole_in cd_is_whole_in ct_is_whole_in), sl_is_whole_in⟩)
    (c_is_whole_in : PySem.W.codeIn K cd_is_whole_in "is_whole_in" = true)
    (k_is_whole_in : PySem.W.keepIn K (.ref f_is_whole_in) = true)
    (a_is_state : PySem.W.nsIn K mainGlobals "is_state" = some (some (.ref f_is_state)))
    (l_is_state : K.lookup f_is_state = some ⟨oc_is_state, od_is_state, .func (PySem.W.fnOf "is_state" "is_state" (defArgs st_is_state) (defBody st_is_state) (defScope st_is_state) .none kV_is_state dc_is_state pm_is_state an_is_state cd_is_state ct_is_state), sl_is_state⟩)
    (c_is_state : PySem.W.codeIn K cd_is_state "is_state" = true)
    (k_is_state : PySem.W.keepIn K (.ref f_is_state) = true)
    (a_is_rising : PySem.W.nsIn K mainGlobals "is_rising" = some (some (.ref f_is_rising)))
    (l_is_rising : K.lookup f_is_rising = some ⟨oc_is_rising, od_is_rising, .func (PySem.W.fnOf "is_rising" "is_rising" (defArgs st_is_rising) (defBody st_is_rising) (defScope st_is_rising) .none kV_is_rising dc_is_rising pm_is_rising an_is_rising cd_is_rising ct_is_rising), sl_is_rising⟩)
    (c_is_rising : PySem.W.codeIn K cd_is_rising "is_rising" = true)
    (k_is_rising : PySem.W.keepIn K (.ref f_is_rising) = true)
    (a_is_file : PySem.W.nsIn K mainGlobals "is_file" = some (some (.ref f_is_file)))
    (l_is_file : K.lookup f_is_file = some ⟨oc_is_file, od_is_file, .func (PySem.W.fnOf "is_file" "is_file" (defArgs st_is_file) (defBody st_is_file) (defScope st_is_file) .none kV_is_file dc_is_file pm_is_file an_is_file cd_is_file ct_is_file), sl_is_file⟩)
    (c_is_file : PySem.W.codeIn K cd_is_file "is_file" = true)
    (k_is_file : PySem.W.keepIn K (.ref f_is_file) = true)
    (a_check_righting : PySem.W.nsIn K mainGlobals "check_righting" = some (some (.ref f_check_righting)))
    (l_check_righting : K.lookup f_check_righting = some ⟨oc_check_righting, od_check_righting, .func (PySem.W.fnOf "check_righting" "check_righting" (defArgs st_check_righting) (defBody st_check_righting) (defScope st_check_righting) .none kV_check_righting dc_check_righting pm_check_righting an_check_righting cd_check_righting ct_check_righting), sl_check_righting⟩)
    (c_check_righting : PySem.W.codeIn K cd_check_righting "check_righting" = true)
    (k_check_righting : PySem.W.keepIn K (.ref f_check_righting) = true)
    (a__law_moves : PySem.W.nsIn K mainGlobals "_law_moves" = some (some (.ref f__law_moves)))
    (l__law_moves : K.lookup f__law_moves = some ⟨oc__law_moves, od__law_moves, .func (PySem.W.fnOf "_law_moves" "_law_moves" (defArgs st__law_moves) (defBody st__law_moves) (defScope st__law_moves) .none kV__law_moves dc__law_moves pm__law_moves an__law_moves cd__law_moves ct__law_moves), sl__law_moves⟩)
    (c__law_moves : PySem.W.codeIn K cd__law_moves "_law_moves" = true)
    (k__law_moves : PySem.W.keepIn K (.ref f__law_moves) = true)
    (a__law_same : PySem.W.nsIn K mainGlobals "_law_same" = some (some (.ref f__law_same)))
    (l__law_same : K.lookup f__law_same = some ⟨oc__law_same, od__law_same, .func (PySem.W.fnOf "_law_same" "_law_same" (defArgs st__law_same) (defBody st__law_same) (defScope st__law_same) .none kV__law_same dc__law_same pm__law_same an__law_same cd__law_same ct__law_same), sl__law_same⟩)
    (c__law_same : PySem.W.codeIn K cd__law_same "_law_same" = true)
    (k__law_same : PySem.W.keepIn K (.ref f__law_same) = true)
    (a_check_state : PySem.W.nsIn K mainGlobals "check_state" = some (some (.ref f_check_state)))
    (l_check_state : K.lookup f_check_state = some ⟨oc_check_state, od_check_state, .func (PySem.W.fnOf "check_state" "check_state" (defArgs st_check_state) (defBody st_check_state) (defScope st_check_state) .none kV_check_state dc_check_state pm_check_state an_check_state cd_check_state ct_check_state), sl_check_state⟩)
    (c_check_state : PySem.W.codeIn K cd_check_state "check_state" = true)
    (k_check_state : PySem.W.keepIn K (.ref f_check_state) = true)
    (a_outcomes_at : PySem.W.nsIn K mainGlobals "outcomes_at" = some (some (.ref f_outcomes_at)))
    (l_outcomes_at : K.lookup f_outcomes_at = some ⟨oc_outcomes_at, od_outcomes_at, .func (PySem.W.fnOf "outcomes_at" "outcomes_at" (defArgs st_outcomes_at) (defBody st_outcomes_at) (defScope st_outcomes_at) .none kV_outcomes_at dc_outcomes_at pm_outcomes_at an_outcomes_at cd_outcomes_at ct_outcomes_at), sl_outcomes_at⟩)
    (c_outcomes_at : PySem.W.codeIn K cd_outcomes_at "outcomes_at" = true)
    (k_outcomes_at : PySem.W.keepIn K (.ref f_outcomes_at) = true)
    (a_moves_at : PySem.W.nsIn K mainGlobals "moves_at" = some (some (.ref f_moves_at)))
    (l_moves_at : K.lookup f_moves_at = some ⟨oc_moves_at, od_moves_at, .func (PySem.W.fnOf "moves_at" "moves_at" (defArgs st_moves_at) (defBody st_moves_at) (defScope st_moves_at) .none kV_moves_at dc_moves_at pm_moves_at an_moves_at cd_moves_at ct_moves_at), sl_moves_at⟩)
    (c_moves_at : PySem.W.codeIn K cd_moves_at "moves_at" = true)
    (k_moves_at : PySem.W.keepIn K (.ref f_moves_at) = true)
    (a_is_move_at : PySem.W.nsIn K mainGlobals "is_move_at" = some (some (.ref f_is_move_at)))
    (l_is_move_at : K.lookup f_is_move_at = some ⟨oc_is_move_at, od_is_move_at, .func (PySem.W.fnOf "is_move_at" "is_move_at" (defArgs st_is_move_at) (defBody st_is_move_at) (defScope st_is_move_at) .none kV_is_move_at dc_is_move_at pm_is_move_at an_is_move_at cd_is_move_at ct_is_move_at), sl_is_move_at⟩)
    (c_is_move_at : PySem.W.codeIn K cd_is_move_at "is_move_at" = true)
    (k_is_move_at : PySem.W.keepIn K (.ref f_is_move_at) = true)
    (a_outcomes : PySem.W.nsIn K mainGlobals "outcomes" = some (some (.ref f_outcomes)))
    (l_outcomes : K.lookup f_outcomes = some ⟨oc_outcomes, od_outcomes, .func (PySem.W.fnOf "outcomes" "outcomes" (defArgs st_outcomes) (defBody st_outcomes) (defScope st_outcomes) .none kV_outcomes dc_outcomes pm_outcomes an_outcomes cd_outcomes ct_outcomes), sl_outcomes⟩)
    (c_outcomes : PySem.W.codeIn K cd_outcomes "outcomes" = true)
    (k_outcomes : PySem.W.keepIn K (.ref f_outcomes) = true)
    (a_moves : PySem.W.nsIn K mainGlobals "moves" = some (some (.ref f_moves)))
    (l_moves : K.lookup f_moves = some ⟨oc_moves, od_moves, .func (PySem.W.fnOf "moves" "moves" (defArgs st_moves) (defBody st_moves) (defScope st_moves) .none kV_moves dc_moves pm_moves an_moves cd_moves ct_moves), sl_moves⟩)
    (c_moves : PySem.W.codeIn K cd_moves "moves" = true)
    (k_moves : PySem.W.keepIn K (.ref f_moves) = true)
    (a__law_no_state : PySem.W.nsIn K mainGlobals "_law_no_state" = some (some (.ref f__law_no_state)))
    (l__law_no_state : K.lookup f__law_no_state = some ⟨oc__law_no_state, od__law_no_state, .func (PySem.W.fnOf "_law_no_state" "_law_no_state" (defArgs st__law_no_state) (defBody st__law_no_state) (defScope st__law_no_state) .none kV__law_no_state dc__law_no_state pm__law_no_state an__law_no_state cd__law_no_state ct__law_no_state), sl__law_no_state⟩)
    (c__law_no_state : PySem.W.codeIn K cd__law_no_state "_law_no_state" = true)
    (k__law_no_state : PySem.W.keepIn K (.ref f__law_no_state) = true)
    (a__law_refused : PySem.W.nsIn K mainGlobals "_law_refused" = some (some (.ref f__law_refused)))
    (l__law_refused : K.lookup f__law_refused = some ⟨oc__law_refused, od__law_refused, .func (PySem.W.fnOf "_law_refused" "_law_refused" (defArgs st__law_refused) (defBody st__law_refused) (defScope st__law_refused) .none kV__law_refused dc__law_refused pm__law_refused an__law_refused cd__law_refused ct__law_refused), sl__law_refused⟩)
    (c__law_refused : PySem.W.codeIn K cd__law_refused "_law_refused" = true)
    (k__law_refused : PySem.W.keepIn K (.ref f__law_refused) = true)
    (a_lies_within : PySem.W.nsIn K mainGlobals "lies_within" = some (some (.ref f_lies_within)))
    (l_lies_within : K.lookup f_lies_within = some ⟨oc_lies_within, od_lies_within, .func (PySem.W.fnOf "lies_within" "lies_within" (defArgs st_lies_within) (defBody st_lies_within) (defScope st_lies_within) .none kV_lies_within dc_lies_within pm_lies_within an_lies_within cd_lies_within ct_lies_within), sl_lies_within⟩)
    (c_lies_within : PySem.W.codeIn K cd_lies_within "lies_within" = true)
    (k_lies_within : PySem.W.keepIn K (.ref f_lies_within) = true)
    (a_is_done : PySem.W.nsIn K mainGlobals "is_done" = some (some (.ref f_is_done)))
    (l_is_done : K.lookup f_is_done = some ⟨oc_is_done, od_is_done, .func (PySem.W.fnOf "is_done" "is_done" (defArgs st_is_done) (defBody st_is_done) (defScope st_is_done) .none kV_is_done dc_is_done pm_is_done an_is_done cd_is_done ct_is_done), sl_is_done⟩)
    (c_is_done : PySem.W.codeIn K cd_is_done "is_done" = true)
    (k_is_done : PySem.W.keepIn K (.ref f_is_done) = true)
    (a__law_done : PySem.W.nsIn K mainGlobals "_law_done" = some (some (.ref f__law_done)))
    (l__law_done : K.lookup f__law_done = some ⟨oc__law_done, od__law_done, .func (PySem.W.fnOf "_law_done" "_law_done" (defArgs st__law_done) (defBody st__law_done) (defScope st__law_done) .none kV__law_done dc__law_done pm__law_done an__law_done cd__law_done ct__law_done), sl__law_done⟩)
    (c__law_done : PySem.W.codeIn K cd__law_done "_law_done" = true)
    (k__law_done : PySem.W.keepIn K (.ref f__law_done) = true)
    (a__law_outcomes : PySem.W.nsIn K mainGlobals "_law_outcomes" = some (some (.ref f__law_outcomes)))
    (l__law_outcomes : K.lookup f__law_outcomes = some ⟨oc__law_outcomes, od__law_outcomes, .func (PySem.W.fnOf "_law_outcomes" "_law_outcomes" (defArgs st__law_outcomes) (defBody st__law_outcomes) (defScope st__law_outcomes) .none kV__law_outcomes dc__law_outcomes pm__law_outcomes an__law_outcomes cd__law_outcomes ct__law_outcomes), sl__law_outcomes⟩)
    (c__law_outcomes : PySem.W.codeIn K cd__law_outcomes "_law_outcomes" = true)
    (k__law_outcomes : PySem.W.keepIn K (.ref f__law_outcomes) = true)
    (a_law : PySem.W.nsIn K mainGlobals "law" = some (some (.ref f_law)))
    (l_law : K.lookup f_law = some ⟨oc_law, od_law, .func (PySem.W.fnOf "law" "law" (defArgs st_law) (defBody st_law) (defScope st_law) .none kV_law dc_law pm_law an_law cd_law ct_law), sl_law⟩)
    (c_law : PySem.W.codeIn K cd_law "law" = true)
    (k_law : PySem.W.keepIn K (.ref f_law) = true)
    : ∃ fd : FuncData, (∀ (s : Shared) (v : Value), BindsTo s fd ⟨[v], []⟩ [("script", v)]) ∧ ∀ base : Heap, K.In base → base.Ns mainGlobals mg → FnOk l.prog w K mg base (L2.CX l.prog w) 42 fa fd ["script"] (spL K) := by
  have e := hfa.symm.trans (PySem.W.mg_of X G a_law)
  cases e
  have T : Txt K mg := {
    cat_BadRighting := (Cat0.cons X G g_BadRighting g_BadRighting s_BadRighting d_BadRighting t_BadRighting ct_BadRighting_BadRighting (Cat0.nil X G g_BadRighting)),
    con_DEEPEST := Con0.int X G v_DEEPEST,
    con_MOST_FILES := Con0.int X G v_MOST_FILES,
    con_MOST_GAUGES := Con0.int X G v_MOST_GAUGES,
    no_abs := PySem.W.mg_none_of X G n_abs,
    no_all := PySem.W.mg_none_of X G n_all,
    no_bool := PySem.W.mg_none_of X G n_bool,
    no_enumerate := PySem.W.mg_none_of X G n_enumerate,
    no_int := PySem.W.mg_none_of X G n_int,
    no_isinstance := PySem.W.mg_none_of X G n_isinstance,
    no_len := PySem.W.mg_none_of X G n_len,
    no_list := PySem.W.mg_none_of X G n_list,
    no_min := PySem.W.mg_none_of X G n_min,
    no_range := PySem.W.mg_none_of X G n_range,
    no_str := PySem.W.mg_none_of X G n_str,
    no_tuple := PySem.W.mg_none_of X G n_tuple,
    exc_BadRighting := Exc0.mk' X G g_BadRighting e_BadRighting k_BadRighting s_BadRighting t_BadRighting,
    fn__law_pool := FnT.mk' X G a__law_pool l__law_pool c__law_pool k__law_pool fun _ _ _ _ _ _ us hl => match us, hl with | [_], _ => rfl,
    fn__law_pair := FnT.mk' X G a__law_pair l__law_pair c__law_pair k__law_pair fun _ _ _ _ _ _ us hl => match us, hl with | [_, _, _], _ => rfl,
    fn__law_at := FnT.mk' X G a__law_at l__law_at c__law_at k__law_at fun _ _ _ _ _ _ us hl => match us, hl with | [_, _], _ => rfl,
    fn__law_righting := FnT.mk' X G a__law_righting l__law_righting c__law_righting k__law_righting fun _ _ _ _ _ _ us hl => match us, hl with | [_, _], _ => rfl,
    fn__law_states := FnT.mk' X G a__law_states l__law_states c__law_states k__law_states fun _ _ _ _ _ _ us hl => match us, hl with | [_], _ => rfl,
    fn__law_bad_subjects := FnT.mk' X G a__law_bad_subjects l__law_bad_subjects c__law_bad_subjects k__law_bad_subjects fun _ _ _ _ _ _ us hl => match us, hl with | [_], _ => rfl,
    fn_is_tuple_of := FnT.mk' X G a_is_tuple_of l_is_tuple_of c_is_tuple_of k_is_tuple_of fun _ _ _ _ _ _ us hl => match us, hl with | [_, _, _], _ => rfl,
    fn_is_whole := FnT.mk' X G a_is_whole l_is_whole c_is_whole k_is_whole fun _ _ _ _ _ _ us hl => match us, hl with | [_], _ => rfl,
    fn_is_whole_in := FnT.mk' X G a_is_whole_in l_is_whole_in c_is_whole_in k_is_whole_in fun _ _ _ _ _ _ us hl => match us, hl with | [_, _, _], _ => rfl,
    fn_is_state := FnT.mk' X G a_is_state l_is_state c_is_state k_is_state fun _ _ _ _ _ _ us hl => match us, hl with | [_, _], _ => rfl,
    fn_is_rising := FnT.mk' X G a_is_rising l_is_rising c_is_rising k_is_rising fun _ _ _ _ _ _ us hl => match us, hl with | [_], _ => rfl,
    fn_is_file := FnT.mk' X G a_is_file l_is_file c_is_file k_is_file fun _ _ _ _ _ _ us hl => match us, hl with | [_, _], _ => rfl,
    fn_check_righting := FnT.mk' X G a_check_righting l_check_righting c_check_righting k_check_righting fun _ _ _ _ _ _ us hl => match us, hl with | [_], _ => rfl,
    fn__law_moves := FnT.mk' X G a__law_moves l__law_moves c__law_moves k__law_moves fun _ _ _ _ _ _ us hl => match us, hl with | [_, _], _ => rfl,
    fn__law_same := FnT.mk' X G a__law_same l__law_same c__law_same k__law_same fun _ _ _ _ _ _ us hl => match us, hl with | [_, _], _ => rfl,
    fn_check_state := FnT.mk' X G a_check_state l_check_state c_check_state k_check_state fun _ _ _ _ _ _ us hl => match us, hl with | [_, _], _ => rfl,
    fn_outcomes_at := FnT.mk' X G a_outcomes_at l_outcomes_at c_outcomes_at k_outcomes_at fun _ _ _ _ _ _ us hl => match us, hl with | [_, _, _], _ => rfl,
    fn_moves_at := FnT.mk' X G a_moves_at l_moves_at c_moves_at k_moves_at fun _ _ _ _ _ _ us hl => match us, hl with | [_, _], _ => rfl,
    fn_is_move_at := FnT.mk' X G a_is_move_at l_is_move_at c_is_move_at k_is_move_at fun _ _ _ _ _ _ us hl => match us, hl with | [_, _, _], _ => rfl,
    fn_outcomes := FnT.mk' X G a_outcomes l_outcomes c_outcomes k_outcomes fun _ _ _ _ _ _ us hl => match us, hl with | [_, _, _], _ => rfl,
    fn_moves := FnT.mk' X G a_moves l_moves c_moves k_moves fun _ _ _ _ _ _ us hl => match us, hl with | [_, _], _ => rfl,
    fn__law_no_state := FnT.mk' X G a__law_no_state l__law_no_state c__law_no_state k__law_no_state fun _ _ _ _ _ _ us hl => match us, hl with | [_, _], _ => rfl,
    fn__law_refused := FnT.mk' X G a__law_refused l__law_refused c__law_refused k__law_refused fun _ _ _ _ _ _ us hl => match us, hl with | [_], _ => rfl,
    fn_lies_within := FnT.mk' X G a_lies_within l_lies_within c_lies_within k_lies_within fun _ _ _ _ _ _ us hl => match us, hl with | [_, _], _ => rfl,
    fn_is_done := FnT.mk' X G a_is_done l_is_done c_is_done k_is_done fun _ _ _ _ _ _ us hl => match us, hl with | [_, _], _ => rfl,
    fn__law_done := FnT.mk' X G a__law_done l__law_done c__law_done k__law_done fun _ _ _ _ _ _ us hl => match us, hl with | [_, _], _ => rfl,
    fn__law_outcomes := FnT.mk' X G a__law_outcomes l__law_outcomes c__law_outcomes k__law_outcomes fun _ _ _ _ _ _ us hl => match us, hl with | [_, _, _], _ => rfl,
    fn_law := FnT.mk' X G a_law l_law c_law k_law fun _ _ _ _ _ _ us hl => match us, hl with | [_], _ => rfl }
  exact ⟨_, fun s v => .of_eq rfl, fun base _ _ => fnL (fnok_law T (fun_mk l_law c_law k_law)) hF⟩
end K17

namespace K17
open PL PySem Std
theorem t_w (d : D) (h : noD d = true) : m_is_whole [d] = .ok (.v (.bl (isW d))) := Std.s_is_whole d h
theorem t_wi (d : D) (lo hi : Int) (h : noD d = true) : m_is_whole_in [d, .int lo, .int hi] = .ok (.v (.bl (isWin lo hi d))) := Std.s_is_whole_in d lo hi h
theorem t_tup (d : D) (lo hi : Int) (h : noD d = true) : m_is_tuple_of [d, .int lo, .int hi] = .ok (.v (.bl (isTup lo hi d))) := Std.s_is_tuple_of d lo hi h
def isSt (top : Int) (a b : D) : Bool := isWin 0 top a && (match a with | .int i => isWin i top b | _ => false)
def isFl (top : Int) (a b : D) : Bool := isWin 1 top a && (match a with | .int i => isWin 0 i b | _ => false)
theorem t_state (top : Int) (a b : D) (ha : noD a = true) (hb : noD b = true) : m_is_state [.int top, .tup [a, b]] = .ok (.v (.bl (isSt top a b))) := by
  unfold isSt
  cases a <;> first | (simp at ha; done) | simp [m_is_state, b_is_state, t_tup, L2.atI, L2.ixN, t_wi, hb]
  all_goals (split <;> simp_all <;> omega)
theorem t_state0 (top : Int) (d : D) (h : noD d = true) (hd : isTup 2 2 d = false) : m_is_state [.int top, d] = .ok (.v (.bl false)) := by
  simp [m_is_state, b_is_state, t_tup, h, hd]
theorem t_file (top : Int) (a b : D) (ha : noD a = true) (hb : noD b = true) : m_is_file [.int top, .tup [a, b]] = .ok (.v (.bl (isFl top a b))) := by
  unfold isFl
  cases a <;> first | (simp at ha; done) | simp [m_is_file, b_is_file, t_tup, L2.atI, L2.ixN, t_wi, hb]
  all_goals (split <;> simp_all <;> omega)
theorem t_file0 (top : Int) (d : D) (h : noD d = true) (hd : isTup 2 2 d = false) : m_is_file [.int top, d] = .ok (.v (.bl false)) := by
  simp [m_is_file, b_is_file, t_tup, h, hd]
/-! gauges that rise -/
theorem t_rising (gs : List Int) (hl : gs.length ≤ 1000) (h : gs.Pairwise (· < ·)) : m_is_rising [.tup (gs.map .int)] = .ok (.v (.bl true)) := by
  simp [m_is_rising, b_is_rising]
  obtain ⟨ρ1, h1, x1, e1⟩ := lp_invM (t := gNm [] 1) (f := b_is_rising_f1) (h := D.int) (fun ρ => ∃ x, ρ = [some (.v (.tup (gs.map .int))), x, none]) gs _ ⟨none, rfl⟩ (fun i ρ _ ⟨x, hx⟩ => by
    subst hx
    exact ⟨_, rfl, [some (.v (.tup (gs.map .int))), some (.v (.int i)), none], by simp [b_is_rising_f1, t_w], _, rfl⟩)
  rw [h1]
  subst e1
  simp
  rw [x_int2 _ _ (by omega)]
  simp
  obtain ⟨ρ2, h2, y1, y2, e2⟩ := lp_invM (t := gNm [] 2) (f := b_is_rising_f2) (h := fun k : Nat => D.int (1 + k)) (fun ρ => ∃ x y, ρ = [some (.v (.tup (gs.map .int))), x, y]) (List.range (gs.length - 1)) [some (.v (.tup (gs.map .int))), x1, none] ⟨_, _, rfl⟩ (fun k ρ hk ⟨x, y, hx⟩ => by
    subst hx
    have hk : k < gs.length - 1 := List.mem_range.mp hk
    refine ⟨_, rfl, [some (.v (.tup (gs.map .int))), x, some (.v (.int (1 + k)))], ?_, _, _, rfl⟩
    have g1 : L2.atI (gs.map D.int) (1 + (k : Int) - 1) = some (.int gs[k]) := by
      rw [show 1 + (k : Int) - 1 = ((k : Nat) : Int) by omega]
      exact atI_ofNat _ _ _ (by rw [List.getElem?_map, List.getElem?_eq_getElem (by omega)]; rfl)
    have g2 : L2.atI (gs.map D.int) (1 + (k : Int)) = some (.int gs[k + 1]) := by
      rw [show 1 + (k : Int) = ((k + 1 : Nat) : Int) by omega]
      exact atI_ofNat _ _ _ (by rw [List.getElem?_map, List.getElem?_eq_getElem (by omega)]; rfl)
    have lt : gs[k] < gs[k + 1] := List.pairwise_iff_getElem.mp h k (k + 1) (by omega) (by omega) (by omega)
    simp [b_is_rising_f2, g1, g2]
    omega)
  unfold rgD
  rw [h2]
  simp
/-! the subject -/
structure Sj where
  top : Int
  s0 : Int
  s1 : Int
  g0 : Int
  g1 : Int
  gs : List Int
  fs : List (Int × Int)
def fl (p : Int × Int) : D := .tup [.int p.1, .int p.2]
def Sj.d (s : Sj) : D := .tup [.int s.top, .tup [.int s.s0, .int s.s1], .tup [.int s.g0, .int s.g1], .tup (s.gs.map .int), .tup (s.fs.map fl)]
structure Sj.Ok (s : Sj) : Prop where
  t1 : 1 ≤ s.top
  t2 : s.top ≤ 12
  a1 : 0 ≤ s.s0
  a2 : s.s0 ≤ s.s1
  a3 : s.s1 ≤ s.top
  b1 : 0 ≤ s.g0
  b2 : s.g0 ≤ s.g1
  b3 : s.g1 ≤ s.top
  r : s.gs.Pairwise (· < ·)
  l : s.gs.length ≤ 6
  g : ∀ x ∈ s.gs, 0 ≤ x ∧ x ≤ s.top - 1
  fl : s.fs.length ≤ 4
  f : ∀ x ∈ s.fs, 1 ≤ x.1 ∧ x.1 ≤ s.top ∧ 0 ≤ x.2 ∧ x.2 ≤ x.1
abbrev E (d : D) : Prop := isX (m_check_righting [d]) "BadRighting"
theorem c1 (d : D) (h : noD d = true) (hd : isTup 5 5 d = false) : E d := by
  simp [E, m_check_righting, b_check_righting, t_tup, h, hd]
theorem c2 (t b c g f : D) (h : noD t = true) (ht : isWin 1 12 t = false) : E (.tup [t, b, c, g, f]) := by
  simp [E, m_check_righting, b_check_righting, t_tup, t_wi, h, ht, c_DEEPEST]
theorem c3 (t : Int) (b c g f : D) (h1 : 1 ≤ t) (h2 : t ≤ 12) (vb vc : Bool) (hb : m_is_state [.int t, b] = .ok (.v (.bl vb))) (hc : vb = true → m_is_state [.int t, c] = .ok (.v (.bl vc))) (hv : (vb && vc) = false) : E (.tup [.int t, b, c, g, f]) := by
  cases vb with
  | false =>
    simp [E, m_check_righting, b_check_righting, t_tup, t_wi, h1, h2, c_DEEPEST, hb]
  | true =>
    have hc := hc rfl
    simp at hv
    subst hv
    simp [E, m_check_righting, b_check_righting, t_tup, t_wi, h1, h2, c_DEEPEST, hb, hc]
theorem c4 (t : Int) (b c g f : D) (h1 : 1 ≤ t) (h2 : t ≤ 12) (hb : m_is_state [.int t, b] = .ok (.v (.bl true))) (hc : m_is_state [.int t, c] = .ok (.v (.bl true))) (hg : noD g = true) (v : Bool)
    (hr : isTup 0 6 g = true → m_is_rising [g] = .ok (.v (.bl v))) (hv : (isTup 0 6 g && v) = false) : E (.tup [.int t, b, c, g, f]) := by
  cases ht : isTup 0 6 g with
  | false => simp [E, m_check_righting, b_check_righting, t_tup, t_wi, h1, h2, c_DEEPEST, c_MOST_GAUGES, hb, hc, hg, ht]
  | true =>
    have hr := hr ht
    simp [ht] at hv
    subst hv
    simp [E, m_check_righting, b_check_righting, t_tup, t_wi, h1, h2, c_DEEPEST, c_MOST_GAUGES, hb, hc, hg, ht, hr]
/-- the gauges are judged one by one -/
theorem lc1 (t : Int) (b c f x : D) (gs : List Int) (hl : gs.length ≤ 6) (s : D) (u : Option S) : lcLp [] [6] (gNm [] 6) tsNo b_check_righting_c1 (gs.map .int) [some (.v s), some (.v (.int t)), some (.v b), some (.v c), some (.v x), some (.v f), none, u] [] =
    .ok (gs.map fun i => .bl (decide (0 ≤ i) && decide (i ≤ t - 1)), [some (.v s), some (.v (.int t)), some (.v b), some (.v c), some (.v x), some (.v f), none, u]) := by
  rw [lc_map (fun d => match d with | .int i => .bl (decide (0 ≤ i) && decide (i ≤ t - 1)) | _ => .non) _ (by simp; omega) fun d hd => ?_]
  · rw [List.map_map]; rfl
  · obtain ⟨i, _, rfl⟩ := List.mem_map.mp hd
    exact ⟨_, [some (.v s), some (.v (.int t)), some (.v b), some (.v c), some (.v x), some (.v f), some (.v (.int i)), u], rfl, by simp [b_check_righting_c1, t_wi], by simp⟩
theorem lc2 (t : Int) (b c x : D) (fs : List D) (v : D → Bool) (hv : ∀ d ∈ fs, m_is_file [.int t, d] = .ok (.v (.bl (v d)))) (hl : fs.length ≤ 4) (s f : D) (u : Option S) : lcLp [] [7] (gNm [] 7) tsNo b_check_righting_c2 fs [some (.v s), some (.v (.int t)), some (.v b), some (.v c), some (.v x), some (.v f), u, none] [] =
    .ok (fs.map fun d => .bl (v d), [some (.v s), some (.v (.int t)), some (.v b), some (.v c), some (.v x), some (.v f), u, none]) := by
  rw [lc_map (fun d => .bl (v d)) _ (by omega) fun d hd => ?_]
  exact ⟨_, [some (.v s), some (.v (.int t)), some (.v b), some (.v c), some (.v x), some (.v f), u, some (.v d)], rfl, by simp [b_check_righting_c2, hv d hd], by simp⟩
section
variable (t : Int) (b c f : D) (gs : List Int) (h1 : 1 ≤ t) (h2 : t ≤ 12) (hb : m_is_state [.int t, b] = .ok (.v (.bl true))) (hc : m_is_state [.int t, c] = .ok (.v (.bl true))) (hl : gs.length ≤ 6) (hp : gs.Pairwise (· < ·))
include h1 h2 hb hc hl hp
theorem c5 (hx : (gs.all fun i => decide (0 ≤ i) && decide (i ≤ t - 1)) = false) : E (.tup [.int t, b, c, .tup (gs.map .int), f]) := by
  have hr := t_rising gs (by omega) hp
  have l1 := lc1 t b c f (.tup (gs.map .int)) gs hl (.tup [.int t, b, c, .tup (gs.map .int), f]) none
  have hl' : ((gs.length : Nat) : Int) ≤ 6 := by omega
  simp [E, m_check_righting, b_check_righting, t_tup, t_wi, h1, h2, c_DEEPEST, c_MOST_GAUGES, hb, hc, hl', hr, x_eLc, l1, x_blsM]
  rw [if_pos (by simpa using hx)]
  simp
variable (hx : (gs.all fun i => decide (0 ≤ i) && decide (i ≤ t - 1)) = true)
include hx
theorem c6 (hf : noD f = true) (h : isTup 0 4 f = false) : E (.tup [.int t, b, c, .tup (gs.map .int), f]) := by
  have hr := t_rising gs (by omega) hp
  have l1 := lc1 t b c f (.tup (gs.map .int)) gs hl (.tup [.int t, b, c, .tup (gs.map .int), f]) none
  have hl' : ((gs.length : Nat) : Int) ≤ 6 := by omega
  simp [E, m_check_righting, b_check_righting, t_tup, t_wi, h1, h2, c_DEEPEST, c_MOST_GAUGES, c_MOST_FILES, hb, hc, hl', hr, x_eLc, l1, x_blsM]
  rw [if_neg (by simpa using hx)]
  simp [t_tup, hf, h, c_MOST_FILES]
theorem c7 (fs : List D) (v : D → Bool) (hv : ∀ d ∈ fs, m_is_file [.int t, d] = .ok (.v (.bl (v d)))) (h4 : fs.length ≤ 4) : (fs.all v = false → E (.tup [.int t, b, c, .tup (gs.map .int), .tup fs])) ∧ (fs.all v = true → m_check_righting [.tup [.int t, b, c, .tup (gs.map .int), .tup fs]] = .ok (.v .non)) := by
  have hr := t_rising gs (by omega) hp
  have l1 := lc1 t b c (.tup fs) (.tup (gs.map .int)) gs hl (.tup [.int t, b, c, .tup (gs.map .int), .tup fs]) none
  have l2 := lc2 t b c (.tup (gs.map .int)) fs v hv h4 (.tup [.int t, b, c, .tup (gs.map .int), .tup fs]) (.tup fs) none
  have hl' : ((gs.length : Nat) : Int) ≤ 6 := by omega
  have h4' : ((fs.length : Nat) : Int) ≤ 4 := by omega
  constructor <;> intro ha
  · simp [E, m_check_righting, b_check_righting, t_tup, t_wi, h1, h2, c_DEEPEST, c_MOST_GAUGES, hb, hc, hl', hr, x_eLc, l1, x_blsM]
    rw [if_neg (by simpa using hx)]
    simp [t_tup, c_MOST_FILES, h4', x_eLc, l2, x_blsM]
    simp at ha
    rw [if_pos ha]
    simp
  · simp [m_check_righting, b_check_righting, t_tup, t_wi, h1, h2, c_DEEPEST, c_MOST_GAUGES, hb, hc, hl', hr, x_eLc, l1, x_blsM]
    rw [if_neg (by simpa using hx)]
    simp [t_tup, c_MOST_FILES, h4', x_eLc, l2, x_blsM]
    simp at ha
    rw [if_neg (by simpa using ha)]
    simp
end
/-! a right subject -/
section
variable (s : Sj) (o : s.Ok)
include o
theorem st_s : m_is_state [.int s.top, .tup [.int s.s0, .int s.s1]] = .ok (.v (.bl true)) := by
  have h1 := o.a1; have h2 := o.a2; have h3 := o.a3
  rw [t_state _ _ _ (by simp) (by simp)]
  simp [isSt]
  omega
theorem st_g : m_is_state [.int s.top, .tup [.int s.g0, .int s.g1]] = .ok (.v (.bl true)) := by
  have h1 := o.b1; have h2 := o.b2; have h3 := o.b3
  rw [t_state _ _ _ (by simp) (by simp)]
  simp [isSt]
  omega
theorem gs_ok : (s.gs.all fun i => decide (0 ≤ i) && decide (i ≤ s.top - 1)) = true := by
  simp
  exact fun x hx => o.g x hx
def vF (top : Int) : D → Bool
  | .tup [a, b] => isFl top a b
  | _ => false
theorem t_check : m_check_righting [s.d] = .ok (.v .non) := by
  refine (c7 s.top _ _ s.gs o.t1 o.t2 (st_s s o) (st_g s o) o.l o.r (gs_ok s o) (s.fs.map fl) (vF s.top) (fun d hd => ?_) (by rw [List.length_map]; exact o.fl)).2 ?_
  · obtain ⟨p, hp, rfl⟩ := List.mem_map.mp hd
    exact t_file _ _ _ (by simp) (by simp)
  · simp [fl, vF, isFl]
    intro a b hab
    have := o.f (a, b) hab
    simp at this
    omega
theorem t_cs (a b : Int) (h0 : 0 ≤ a) (h1 : a ≤ b) (h2 : b ≤ s.top) : m_check_state [s.d, .tup [.int a, .int b]] = .ok (.v .non) := by
  have hs : m_is_state [.int s.top, .tup [.int a, .int b]] = .ok (.v (.bl true)) := by
    rw [t_state _ _ _ (by simp) (by simp)]
    simp [isSt]
    omega
  have hd : L2.atI [D.int s.top, .tup [.int s.s0, .int s.s1], .tup [.int s.g0, .int s.g1], .tup (s.gs.map .int), .tup (s.fs.map fl)] 0 = some (.int s.top) := rfl
  simp [m_check_state, b_check_state, t_check s o]
  simp [Sj.d, hd, hs]
theorem t_csX (d : D) (h : m_is_state [.int s.top, d] = .ok (.v (.bl false))) : isX (m_check_state [s.d, d]) "BadRighting" := by
  have hd : L2.atI [D.int s.top, .tup [.int s.s0, .int s.s1], .tup [.int s.g0, .int s.g1], .tup (s.gs.map .int), .tup (s.fs.map fl)] 0 = some (.int s.top) := rfl
  simp [m_check_state, b_check_state, t_check s o]
  simp [Sj.d, hd, h]
end
end K17

namespace K17
open PL PySem Std
/-! the same -/
def nice : Nat → D → Prop
  | _, .non => True
  | _, .bl _ => True
  | _, .int _ => True
  | _, .str _ => True
  | n + 1, .tup ds => ds.length ≤ 1000000 ∧ ∀ d ∈ ds, nice n d
  | _, _ => False
theorem same_ok : ∀ (n m : Nat) (d : D), nice n d → n < m → r__law_same m [d, d] = .ok (.v (.bl true)) := by
  intro n
  induction n with
  | zero =>
    intro m d h hm
    obtain ⟨j, rfl⟩ : ∃ j, m = j + 1 := ⟨m - 1, by omega⟩
    cases d with
    | bl b => cases b <;> simp [r__law_same, b__law_same]
    | non => simp [r__law_same, b__law_same]
    | int i => simp [r__law_same, b__law_same]
    | str i => simp [r__law_same, b__law_same]
    | _ => exact h.elim
  | succ n ih =>
    intro m d h hm
    obtain ⟨j, rfl⟩ : ∃ j, m = j + 1 := ⟨m - 1, by omega⟩
    cases d with
    | bl b => cases b <;> simp [r__law_same, b__law_same]
    | non => simp [r__law_same, b__law_same]
    | int i => simp [r__law_same, b__law_same]
    | str i => simp [r__law_same, b__law_same]
    | tup ds =>
      obtain ⟨hl, hd⟩ := h
      simp [r__law_same, b__law_same]
      rw [x_int1' _ (by omega)]
      simp
      obtain ⟨ρ2, h2, y, e2⟩ := lp_invM (t := gNm [] 2) (f := b__law_same_f1 (r__law_same j)) (h := fun p : D × Nat => D.int ((p.2 : Nat) : Int)) (fun ρ => ∃ y, ρ = [some (.v (.tup ds)), some (.v (.tup ds)), y]) ds.zipIdx [some (.v (.tup ds)), some (.v (.tup ds)), none] ⟨_, rfl⟩ (fun p ρ hp ⟨y, hx⟩ => by
        subst hx
        have hp := mem_zip hp
        refine ⟨_, rfl, [some (.v (.tup ds)), some (.v (.tup ds)), some (.v (.int (p.2 : Nat)))], ?_, _, rfl⟩
        have g1 := atI_ofNat ds p.2 p.1 hp
        simp [b__law_same_f1, g1, ih j p.1 (hd _ (List.mem_of_getElem? hp)) (by omega)])
      rw [rg_zip, h2]
      subst e2
      simp
    | _ => exact h.elim
/-! moves -/
def gaD (g : Int) : D := .tup [.str "gauge", .int g]
def fiD (j : Nat) : D := .tup [.str "file", .int (j : Nat)]
def gaL (s : Sj) (a b : Int) : List D := (s.gs.filter fun g => decide (a ≤ g) && decide (g < b)).map gaD
def fiL (s : Sj) (a : Int) : List D := (s.fs.zipIdx.filter fun p => decide (0 ≤ a - p.1.1 - p.1.2)).map fun p => fiD p.2
def mvL (s : Sj) (a b : Int) : List D := gaL s a b ++ fiL s a
def st (a b : Int) : D := .tup [.int a, .int b]
@[simp] theorem sj0 (s : Sj) : L2.atI [D.int s.top, .tup [.int s.s0, .int s.s1], .tup [.int s.g0, .int s.g1], .tup (s.gs.map .int), .tup (s.fs.map fl)] 0 = some (.int s.top) := (rfl)
@[simp] theorem sj1 (s : Sj) : L2.atI [D.int s.top, .tup [.int s.s0, .int s.s1], .tup [.int s.g0, .int s.g1], .tup (s.gs.map .int), .tup (s.fs.map fl)] 1 = some (.tup [.int s.s0, .int s.s1]) := (rfl)
@[simp] theorem sj2 (s : Sj) : L2.atI [D.int s.top, .tup [.int s.s0, .int s.s1], .tup [.int s.g0, .int s.g1], .tup (s.gs.map .int), .tup (s.fs.map fl)] 2 = some (.tup [.int s.g0, .int s.g1]) := (rfl)
@[simp] theorem sj3 (s : Sj) : L2.atI [D.int s.top, .tup [.int s.s0, .int s.s1], .tup [.int s.g0, .int s.g1], .tup (s.gs.map .int), .tup (s.fs.map fl)] 3 = some (.tup (s.gs.map .int)) := (rfl)
@[simp] theorem sj4 (s : Sj) : L2.atI [D.int s.top, .tup [.int s.s0, .int s.s1], .tup [.int s.g0, .int s.g1], .tup (s.gs.map .int), .tup (s.fs.map fl)] 4 = some (.tup (s.fs.map fl)) := (rfl)
@[simp] theorem two0 (x y : D) : L2.atI [x, y] 0 = some x := (rfl)
@[simp] theorem two1 (x y : D) : L2.atI [x, y] 1 = some y := (rfl)
section
variable (s : Sj) (o : s.Ok)
include o
theorem t_moves_at (a b : Int) : m_moves_at [s.d, st a b] = .ok (.v (.tup (mvL s a b))) := by
  have l1 : lcLp [] [6] (gNm [] 6) (tCh dLe dLt (eVar 3) (eVar 6) (eVar 4)) b_moves_at_c1 (s.gs.map .int) [some (.v s.d), some (.v (st a b)), none, some (.v (.int a)), some (.v (.int b)), none, none, none, none] [] = .ok (gaL s a b, [some (.v s.d), some (.v (st a b)), none, some (.v (.int a)), some (.v (.int b)), none, none, none, none]) := by
    refine lc_eqM (h0 := D.int) (fun i => decide (a ≤ i) && decide (i < b)) gaD s.gs [] (by have := o.l; simp; omega) fun i hi => ?_
    refine ⟨_, [some (.v s.d), some (.v (st a b)), none, some (.v (.int a)), some (.v (.int b)), none, some (.v (.int i)), none, none], rfl, ?_, fun hc => ?_, fun hc => ?_⟩
    · simp
      split
      · simp_all
      · simp_all
        omega
    · exact ⟨[some (.v s.d), some (.v (st a b)), none, some (.v (.int a)), some (.v (.int b)), none, some (.v (.int i)), none, none], by simp [b_moves_at_c1, gaD], by simp⟩
    · simp
  have hgl : (gaL s a b).length ≤ 6 := by
    unfold gaL
    rw [List.length_map]
    exact Nat.le_trans (List.length_filter_le _ _) o.l
  simp [m_moves_at, b_moves_at]
  simp [st] at l1 ⊢
  simp [Sj.d] at l1 ⊢
  simp [x_eLc, l1]
  obtain ⟨ρ2, h2, x1, x2, x3, e2⟩ := lp_acc (t := gTp 2 (gsCons (gNm [] 5) (gsCons (gTp 2 (gsCons (gNm [] 7) (gsCons (gNm [] 8) gsNil))) gsNil))) (f := b_moves_at_f2) (h := fun p : (Int × Int) × Nat => D.tup [.int ((p.2 : Nat) : Int), fl p.1])
    (fun acc ρ => ∃ x1 x2 x3, ρ = [some (.v s.d), some (.v (st a b)), some (.o (.lst acc)), some (.v (.int a)), some (.v (.int b)), x1, none, x2, x3]) (fun p => decide (0 ≤ a - p.1.1 - p.1.2)) (fun p => fiD p.2) 16777216 s.fs.zipIdx (gaL s a b) [some (.v s.d), some (.v (st a b)), some (.o (.lst (gaL s a b))), some (.v (.int a)), some (.v (.int b)), none, none, none, none]
    (by have := o.fl; simp; omega) ⟨_, _, _, rfl⟩ (fun p acc ρ hp hacc ⟨x1, x2, x3, hx⟩ => by
      subst hx
      obtain ⟨⟨c, sl⟩, j⟩ := p
      refine ⟨[some (.v s.d), some (.v (st a b)), some (.o (.lst acc)), some (.v (.int a)), some (.v (.int b)), some (.v (.int (j : Nat))), none, some (.v (.int c)), some (.v (.int sl))], by simp [fl], ?_⟩
      refine ⟨[some (.v s.d), some (.v (st a b)), some (.o (.lst (if decide (0 ≤ a - c - sl) = true then acc ++ [fiD j] else acc))), some (.v (.int a)), some (.v (.int b)), some (.v (.int (j : Nat))), none, some (.v (.int c)), some (.v (.int sl))], ?_, _, _, _, rfl⟩
      simp [b_moves_at_f2]
      split <;> simp [hacc, fiD])
  rw [en_zip]
  simp [st, Sj.d] at h2
  rw [h2]
  subst e2
  simp [mvL, fiL]
end
end K17

namespace K17
open PL PySem Std
def pr (w : Str) (t : D) : D := .tup [.str w, t]
theorem eq_pr (w w' : Str) (t t' : Int) : eqD (pr w (.int t)) (pr w' (.int t')) = (decide (w = w') && decide (t = t')) := by
  show PyData.eqv (.tuple [.str w, .int t]) (.tuple [.str w', .int t']) = _
  simp [PyData.eqv, PyData.eqvAll]
  by_cases h : w = w' <;> by_cases h' : t = t' <;> simp [h, h']
theorem lay_all : ∀ es : List D, (∀ e ∈ es, PyData.canLay0 (toPy e) = true) → PyData.canLayAll0 (toPyL es) = true
  | [], _ => by simp [toPyL, PyData.canLayAll0]
  | e :: es, h => by
    simp only [toPyL, PyData.canLayAll0, Bool.and_eq_true]
    exact ⟨h e List.mem_cons_self, lay_all es fun e' he => h e' (List.mem_cons_of_mem _ he)⟩
theorem lay_pr (w : Str) (t : Int) (hw : PyData.strOk w = true) : PyData.canLay0 (toPy (pr w (.int t))) = true := by
  simp [pr, toPy, toPyL, PyData.canLay0, PyData.canLayAll0, hw]
theorem shp_pr (w : Str) (t : Int) (hw : PyData.strOk w = true) : shp (pr w (.int t)) = true := by
  simp [shp, SeqAt.shaped, pr, toPy, toPyL, PyData.canLay0, PyData.canLayAll0, PyData.depth, PyData.depthAll, hw]
section
variable (s : Sj) (o : s.Ok)
include o
theorem gaL_len (a b : Int) : (gaL s a b).length ≤ 6 := by
  unfold gaL
  rw [List.length_map]
  exact Nat.le_trans (List.length_filter_le _ _) o.l
theorem t_law_moves (a b : Int) : m__law_moves [s.d, st a b] = .ok (.o (.lst (mvL s a b))) := by
  have hgl := gaL_len s o a b
  obtain ⟨ρ1, h1, x1, e1⟩ := lp_acc (t := gNm [] 3) (f := b__law_moves_f1) (h := D.int) (fun acc ρ => ∃ x, ρ = [some (.v s.d), some (.v (st a b)), some (.o (.lst acc)), x, none]) (fun g => decide (a ≤ g) && decide (g < b)) gaD 16777216 s.gs [] [some (.v s.d), some (.v (st a b)), some (.o (.lst [])), none, none]
    (by have := o.l; simp; omega) ⟨_, rfl⟩ (fun g acc ρ hg hacc ⟨x, hx⟩ => by
      subst hx
      refine ⟨_, rfl, [some (.v s.d), some (.v (st a b)), some (.o (.lst (if (decide (a ≤ g) && decide (g < b)) = true then acc ++ [gaD g] else acc))), some (.v (.int g)), none], ?_, _, rfl⟩
      simp [b__law_moves_f1, st]
      by_cases c1 : a ≤ g
      · by_cases c2 : g < b
        · simp [c1, c2, hacc, gaD]
        · simp [c1, c2]
      · simp [c1])
  obtain ⟨ρ2, h2, x2, e2⟩ := lp_acc (t := gNm [] 4) (f := b__law_moves_f2) (h := fun p : (Int × Int) × Nat => D.int ((p.2 : Nat) : Int)) (fun acc ρ => ∃ x, ρ = [some (.v s.d), some (.v (st a b)), some (.o (.lst acc)), x1, x]) (fun p => decide (0 ≤ a - p.1.1 - p.1.2)) (fun p => fiD p.2) 16777216 s.fs.zipIdx (gaL s a b) [some (.v s.d), some (.v (st a b)), some (.o (.lst (gaL s a b))), x1, none]
    (by have := o.fl; simp; omega) ⟨_, rfl⟩ (fun p acc ρ hp hacc ⟨x, hx⟩ => by
      subst hx
      have hp := mem_zip hp
      obtain ⟨⟨c, sl⟩, j⟩ := p
      refine ⟨_, rfl, [some (.v s.d), some (.v (st a b)), some (.o (.lst (if decide (0 ≤ a - c - sl) = true then acc ++ [fiD j] else acc))), x1, some (.v (.int (j : Nat)))], ?_, _, rfl⟩
      have g1 : L2.atI (s.fs.map fl) (j : Nat) = some (fl (c, sl)) := atI_ofNat _ _ _ (by rw [List.getElem?_map, hp]; rfl)
      simp [b__law_moves_f2, st, Sj.d, g1, fl]
      by_cases c1 : sl ≤ a - c
      · simp [c1, hacc, fiD, fl, g1]
      · simp [c1, fl, g1])
  simp [m__law_moves, b__law_moves]
  simp [Sj.d] at h1 h2 ⊢
  rw [h1]
  subst e1
  have hfl := o.fl
  simp [Sj.d]
  rw [x_int1' _ (by omega)]
  simp
  have := rg_zip s.fs
  rw [this]
  have e3 : List.map gaD (List.filter (fun g => decide (a ≤ g) && decide (g < b)) s.gs) = gaL s a b := rfl
  rw [e3, h2]
  subst e2
  simp [mvL, fiL]
theorem t_done (a b : Int) (h0 : 0 ≤ a) (h1 : a ≤ b) (h2 : b ≤ s.top) : m_is_done [s.d, st a b] = .ok (.v (.bl (decide (s.g0 ≤ a) && decide (b ≤ s.g1)))) := by
  have h := t_cs s o a b h0 h1 h2
  simp [st] at *
  simp [m_is_done, b_is_done, h]
  simp [Sj.d, m_lies_within, b_lies_within]
  by_cases c : s.g0 ≤ a <;> simp [c]
theorem t_law_done (a b : Int) : m__law_done [s.d, st a b] = .ok (.v (.bl (decide (s.g0 ≤ a) && decide (b ≤ s.g1)))) := by
  simp [m__law_done, b__law_done, Sj.d, st]
  by_cases c : s.g0 ≤ a <;> simp [c]
theorem t_moves (a b : Int) (h0 : 0 ≤ a) (h1 : a ≤ b) (h2 : b ≤ s.top) : m_moves [s.d, st a b] = .ok (.v (.tup (mvL s a b))) := by
  have h := t_cs s o a b h0 h1 h2
  have h' := t_moves_at s o a b
  simp [st] at *
  simp [m_moves, b_moves, h, h']
def pick (s : Sj) (a b : Int) (w : Str) (t : Int) : Bool := (mvL s a b).any fun e => eqD e (pr w (.int t))
theorem mv_shape (a b : Int) (d : D) (h : d ∈ mvL s a b) : (∃ g, d = pr "gauge" (.int g)) ∨ ∃ j p, s.fs[j]? = some p ∧ d = pr "file" (.int (j : Nat)) := by
  unfold mvL at h
  rcases List.mem_append.mp h with h | h
  · obtain ⟨g, _, rfl⟩ := List.mem_map.mp h
    exact .inl ⟨g, rfl⟩
  · obtain ⟨p, hp, rfl⟩ := List.mem_map.mp h
    exact .inr ⟨p.2, p.1, mem_zip (List.mem_filter.mp hp).1, rfl⟩
theorem in_mv (a b : Int) (w : Str) (t : Int) (hw : PyData.strOk w = true) : inL (pr w (.int t)) (mvL s a b) = some (pick s a b w t) := by
  unfold inL
  have hl : PyData.canLayAll0 (toPyL (mvL s a b)) = true := by
    refine lay_all _ fun e he => ?_
    rcases mv_shape s o a b e he with ⟨g, rfl⟩ | ⟨j, p, _, rfl⟩
    · exact lay_pr _ _ (by decide +kernel)
    · exact lay_pr _ _ (by decide +kernel)
  rw [if_pos ⟨shp_pr w t hw, hl⟩]
  rfl
theorem t_is_move (a b : Int) (w : Str) (t : Int) (hw : PyData.strOk w = true) : m_is_move_at [s.d, st a b, pr w (.int t)] = .ok (.v (.bl (pick s a b w t))) := by
  have h := t_moves_at s o a b
  have h2 : dIn (pr w (.int t)) (.tup (mvL s a b)) = some (pick s a b w t) := in_mv s o a b w t hw
  simp [st, pr] at *
  simp [m_is_move_at, b_is_move_at, t_tup, t_w, h, h2]
def outD (s : Sj) (a b : Int) (w : Str) (t : Int) : D :=
  if w = "gauge" then .tup [st a t, st (t + 1) b] else match s.fs[t.toNat]? with
    | some p => .tup [st (a - p.1 - p.2) (b - p.1 + p.2)]
    | none => .non
theorem pick_is (a b : Int) (w : Str) (t : Int) (h : pick s a b w t = true) : w = "gauge" ∨ (w ≠ "gauge" ∧ ∃ (j : Nat) (p : Int × Int), t = (j : Int) ∧ s.fs[j]? = some p) := by
  obtain ⟨e, he, h1⟩ := List.any_eq_true.mp h
  rcases mv_shape s o a b e he with ⟨g, rfl⟩ | ⟨j, p, hj, rfl⟩
  · rw [eq_pr] at h1
    simp at h1
    exact .inl h1.1.symm
  · rw [eq_pr] at h1
    simp at h1
    refine .inr ⟨?_, j, p, h1.2.symm, hj⟩
    rw [← h1.1]
    decide
theorem t_out_at (a b : Int) (w : Str) (t : Int) (h : pick s a b w t = true) : m_outcomes_at [s.d, st a b, pr w (.int t)] = .ok (.v (outD s a b w t)) := by
  rcases pick_is s o a b w t h with hw | ⟨hw, j, p, rfl, hj⟩
  · subst hw
    simp [m_outcomes_at, b_outcomes_at, st, pr, outD]
  · have g1 : L2.atI (s.fs.map fl) (j : Nat) = some (fl p) := atI_ofNat _ _ _ (by rw [List.getElem?_map, hj]; rfl)
    simp [m_outcomes_at, b_outcomes_at, st, pr, outD, hw, Sj.d, g1, fl, hj]
theorem t_law_out (a b : Int) (w : Str) (t : Int) (h : pick s a b w t = true) : m__law_outcomes [s.d, st a b, pr w (.int t)] = .ok (.v (outD s a b w t)) := by
  rcases pick_is s o a b w t h with hw | ⟨hw, j, p, rfl, hj⟩
  · subst hw
    simp [m__law_outcomes, b__law_outcomes, st, pr, outD]
  · have g1 : L2.atI (s.fs.map fl) (j : Nat) = some (fl p) := atI_ofNat _ _ _ (by rw [List.getElem?_map, hj]; rfl)
    simp [m__law_outcomes, b__law_outcomes, st, pr, outD, hw, Sj.d, g1, fl, hj]
theorem t_out (a b : Int) (h0 : 0 ≤ a) (h1 : a ≤ b) (h2 : b ≤ s.top) (w : Str) (t : Int) (hw : PyData.strOk w = true) : m_outcomes [s.d, st a b, pr w (.int t)] = .ok (.v (if pick s a b w t = true then outD s a b w t else .non)) := by
  have h := t_cs s o a b h0 h1 h2
  have h3 := t_is_move s o a b w t hw
  have h4 := t_out_at s o a b w t
  simp [st, pr] at *
  simp [m_outcomes, b_outcomes, h, h3]
  cases hp : pick s a b w t
  · simp
  · simp [h4 hp]
theorem nice_out (a b : Int) (w : Str) (t : Int) : nice 2 (outD s a b w t) := by
  unfold outD
  split
  · exact ⟨by simp, by simp [st, nice]⟩
  · split
    · exact ⟨by simp, by simp [st, nice]⟩
    · trivial
end
end K17

namespace K17
open PL PySem Std
def PoolOk (P : List Int) : Prop := ∀ p ∈ P, 0 ≤ p ∧ p < 1000
/-- the end of _law_at -/
def atT : Sx := (sSeq (sSet [] 2 (e2 dMod (eB dInt1 (aCons (e2 dAdd (e2 dMul (eVar 2) (eC (.int 48271))) (eC (.int 12345))) (aNil))) (eC (.int 2147483647)))) (sSeq (sSet [] 2 (e2 dMod (eB dInt1 (aCons (e2 dAdd (e2 dMul (eVar 2) (eVar 2)) (eVar 1)) (aNil))) (eC (.int 2147483629)))) (sSeq (sSet [] 2 (e2 dMod (eB dInt1 (aCons (e2 dAdd (e2 dMul (eVar 2) (eVar 2)) (eC (.int 7))) (aNil))) (eC (.int 2147483647)))) (sRet [] (e2 dMod (eB dInt1 (aCons (e2 dDiv (eVar 2) (eC (.int 11))) (aNil))) (eC (.int 1000)))))))
theorem b_at_eq : b__law_at = sSeq (sIf (t2 dLt (eVar 1) (eB dLen (aCons (eVar 0) (aNil)))) (sRet [] (e2 dIx (eVar 0) (eVar 1))) (sNil)) (sSeq (sSet [] 2 (e2 dAdd (eC (.int 11)) (e2 dMul (eC (.int 37)) (eVar 1)))) (sSeq (sIf (t2 dGt (eB dLen (aCons (eVar 0) (aNil))) (eC (.int 0))) (sSet [] 2 (e2 dAdd (e2 dAdd (eVar 2) (e2 dMul (e2 dAdd (e2 dIx (eVar 0) (e2 dMod (eB dInt1 (aCons (eVar 1) (aNil))) (eB dLen (aCons (eVar 0) (aNil))))) (eC (.int 5))) (e2 dAdd (e2 dMul (eVar 1) (eVar 1)) (eC (.int 17))))) (eB dLen (aCons (eVar 0) (aNil))))) (sNil)) atT)) := rfl
theorem at_end (P : D) (k sd : Int) : ∃ x : Int, 0 ≤ x ∧ x < 1000 ∧ (atT [some (.v P), some (.v (.int k)), some (.v (.int sd))] >>= endF) = .ok (.v (.int x)) := by
  have h1 : ((sd * 48271 + 12345) % 2147483647).natAbs < 18446744073709551616 := by omega
  generalize hs : (sd * 48271 + 12345) % 2147483647 = s1 at h1
  have h2 : ((s1 * s1 + k) % 2147483629).natAbs < 18446744073709551616 := by omega
  generalize hs2 : (s1 * s1 + k) % 2147483629 = s2 at h2
  refine ⟨(s2 * s2 + 7) % 2147483647 / 11 % 1000, by omega, by omega, ?_⟩
  have hl : Nat.log2 11 < 9000 := by decide
  unfold atT
  simp [-x_mul, x_mulR, hs, x_mulL h1, hs2, x_mulL h2, hl]
theorem t_at (P : List Int) (hP : PoolOk P) (k : Int) (h0 : 0 ≤ k) (h1 : k ≤ 1000) : ∃ x : Int, 0 ≤ x ∧ x < 1000 ∧ m__law_at [.lst (P.map .int), .int k] = .ok (.v (.int x)) := by
  by_cases hk : k < P.length
  · obtain ⟨j, rfl⟩ : ∃ j : Nat, k = j := ⟨k.toNat, by omega⟩
    have hj : j < P.length := by omega
    refine ⟨P[j], (hP _ (List.getElem_mem hj)).1, (hP _ (List.getElem_mem hj)).2, ?_⟩
    have g1 : L2.atI (P.map D.int) (j : Nat) = some (.int P[j]) := atI_ofNat _ _ _ (by rw [List.getElem?_map, List.getElem?_eq_getElem hj]; rfl)
    simp [m__law_at, b__law_at, hj, g1]
  · have hk' : ¬ k < ((P.length : Nat) : Int) := hk
    have m1 : (37 : Int).natAbs < 18446744073709551616 := by decide
    by_cases hz : 0 < P.length
    · have hz' : (0 : Int) < ((P.length : Nat) : Int) := by omega
      have hj : (k % (P.length : Int)).toNat < P.length := by
        have h1 := Int.emod_nonneg k (show (P.length : Int) ≠ 0 by omega)
        have h2 := Int.emod_lt_of_pos k hz'
        omega
      have hjj : k % ((P.length : Nat) : Int) = (((k % (P.length : Int)).toNat : Nat) : Int) := by
        have h1 := Int.emod_nonneg k (show (P.length : Int) ≠ 0 by omega)
        omega
      generalize (k % (P.length : Int)).toNat = j at hj hjj
      have g1 : L2.atI (P.map D.int) (j : Nat) = some (.int P[j]) := atI_ofNat _ _ _ (by rw [List.getElem?_map, List.getElem?_eq_getElem hj]; rfl)
      have hb := hP _ (List.getElem_mem hj)
      have m2 : (P[j] + 5).natAbs < 18446744073709551616 := by omega
      have m3 : k.natAbs < 18446744073709551616 := by omega
      obtain ⟨x, x0, x1, hx⟩ := at_end (.lst (P.map .int)) k (11 + 37 * k + (P[j] + 5) * (k * k + 17) + P.length)
      refine ⟨x, x0, x1, ?_⟩
      simp [-x_mul, m__law_at, b_at_eq, hk', hz, x_mulL m1, x_mulL m2, x_mulL m3, hjj, g1]
      exact hx
    · have hz' : ¬ (0 : Int) < ((P.length : Nat) : Int) := by omega
      obtain ⟨x, x0, x1, hx⟩ := at_end (.lst (P.map .int)) k (11 + 37 * k)
      refine ⟨x, x0, x1, ?_⟩
      simp [-x_mul, m__law_at, b_at_eq, hk', x_mulL m1]
      rw [if_neg (by omega)]
      exact hx
theorem t_pair (a b top : Int) (h : 0 ≤ top) : ∃ x y : Int, 0 ≤ x ∧ x ≤ y ∧ y ≤ top ∧ m__law_pair [.int a, .int b, .int top] = .ok (.v (st x y)) := by
  have h1 := Int.emod_nonneg a (show top + 1 ≠ 0 by omega)
  have h2 := Int.emod_lt_of_pos a (show 0 < top + 1 by omega)
  have h3 := Int.emod_nonneg b (show top + 1 - a % (top + 1) ≠ 0 by omega)
  have h4 := Int.emod_lt_of_pos b (show 0 < top + 1 - a % (top + 1) by omega)
  refine ⟨a % (top + 1), a % (top + 1) + b % (top + 1 - a % (top + 1)), h1, by omega, by omega, ?_⟩
  have c1 : 0 < top + 1 := by omega
  have c2 : 0 < top + 1 - a % (top + 1) := by omega
  simp [m__law_pair, b__law_pair, c1, st]
  rw [if_pos (by omega)]
  simp
/-- one cell's figures -/
theorem t_pool (ns : List Int) : ∃ P : List Int, PoolOk P ∧ m__law_pool [.scr ns] = .ok (.o (.lst (P.map .int))) := by
  have inner : ∀ (acc : List Int) (c r0 : Int) (y : Option S), PoolOk acc → 0 ≤ r0 → acc.length ≤ 10000000 → ∃ (ρ' : Rho) (acc' : List Int) (r' : Int) (y' : Option S), lp (gNm [] 4) b__law_pool_f1 (rgD 0 40) [some (.v (.scr ns)), some (.o (.lst (acc.map .int))), some (.v (.int c)), some (.v (.int r0)), y] = .ok (.next ρ') ∧
      ρ' = [some (.v (.scr ns)), some (.o (.lst (acc'.map .int))), some (.v (.int c)), some (.v (.int r')), y'] ∧ PoolOk acc' ∧ acc'.length ≤ acc.length + 40 := fun acc c r0 y hP hr hl => by
    obtain ⟨ρ', h1, acc', r', y', e, hP', _, hl'⟩ := lp_numM (t := gNm [] 4) (f := b__law_pool_f1) (h := fun k : Nat => D.int (0 + (k : Int))) (List.range 40) (fun i ρ => ∃ (acc' : List Int) (r' : Int) (y' : Option S), ρ = [some (.v (.scr ns)), some (.o (.lst (acc'.map .int))), some (.v (.int c)), some (.v (.int r')), y'] ∧ PoolOk acc' ∧ 0 ≤ r' ∧ acc'.length ≤ acc.length + i)
      [some (.v (.scr ns)), some (.o (.lst (acc.map .int))), some (.v (.int c)), some (.v (.int r0)), y] ⟨acc, r0, y, rfl, hP, hr, by omega⟩ (fun i k ρ hk ⟨acc', r', y', hx, hP', hr', hl'⟩ => by
        subst hx
        have hi : i < 40 := by
          have := List.getElem?_eq_some_iff.mp hk
          obtain ⟨h, _⟩ := this
          simpa using h
        by_cases hc : 0 < r' ∨ (k : Int) = 0
        · refine ⟨_, rfl, [some (.v (.scr ns)), some (.o (.lst ((acc' ++ [r' % 1000]).map .int))), some (.v (.int c)), some (.v (.int (r' / 1000))), some (.v (.int (0 + (k : Int))))], ?_, acc' ++ [r' % 1000], r' / 1000, _, rfl, ?_, by omega, by simp; omega⟩
          · have hl2 : Nat.log2 1000 < 9000 := by decide
            have hl3 : acc'.length < 16777216 := by omega
            rcases hc with hc | hc
            · simp [b__law_pool_f1, hc, hl2, hl3]
            · by_cases hc' : 0 < r'
              · simp [b__law_pool_f1, hc', hl2, hl3]
              · simp [b__law_pool_f1, hc', hc, hl2, hl3]
          · intro p hp
            rcases List.mem_append.mp hp with hp | hp
            · exact hP' p hp
            · have := List.mem_singleton.mp hp
              omega
        · refine ⟨_, rfl, [some (.v (.scr ns)), some (.o (.lst (acc'.map .int))), some (.v (.int c)), some (.v (.int r')), some (.v (.int (0 + (k : Int))))], ?_, acc', r', _, rfl, hP', hr', by omega⟩
          have c1 : ¬ 0 < r' := fun z => hc (.inl z)
          have c2 : ¬ (k : Int) = 0 := fun z => hc (.inr z)
          have c3 : ¬ k = 0 := by omega
          simp [b__law_pool_f1, c1, c3])
    exact ⟨ρ', acc', r', y', h1, e, hP', by simpa using hl'⟩
  have hlen : (cutG ns none (some 63)).length ≤ 63 := by
    unfold cutG
    simp [HT.sIx]
    omega
  obtain ⟨ρ', h1, acc, x1, x2, x3, e, hP, hl⟩ := lp_numM (t := gNm [] 2) (f := b__law_pool_f2) (h := D.int) (cutG ns none (some 63)) (fun i ρ => ∃ (acc : List Int) (x1 x2 x3 : Option S), ρ = [some (.v (.scr ns)), some (.o (.lst (acc.map .int))), x1, x2, x3] ∧ PoolOk acc ∧ acc.length ≤ 40 * i)
    [some (.v (.scr ns)), some (.o (.lst [])), none, none, none] ⟨[], _, _, _, rfl, (fun _ h => by cases h), by simp⟩ (fun i c ρ hc ⟨acc, x1, x2, x3, hx, hP, hl⟩ => by
      subst hx
      have hi : i < 63 := by
        obtain ⟨h, _⟩ := List.getElem?_eq_some_iff.mp hc
        omega
      obtain ⟨ρ', acc', r', y', h1, e, hP', hl'⟩ := inner acc c (if c < 0 then -c else c) x3 hP (by split <;> omega) (by omega)
      refine ⟨_, rfl, ρ', ?_, acc', _, _, _, e, hP', by omega⟩
      simp [b__law_pool_f2]
      rw [x_int1' _ (by omega)]
      simp
      exact h1)
  refine ⟨cutG acc none (some 240), fun p hp => hP p (List.mem_of_mem_drop (List.mem_of_mem_take hp)), ?_⟩
  simp [m__law_pool, b__law_pool]
  rw [h1]
  subst e
  simp [cutG, List.map_take, List.map_drop]
end K17

namespace K17
open PL PySem Std
theorem r_ga (Pd pk : D) (top bits : Int) (h1 : 1 ≤ top) (h2 : top ≤ 12) : ∃ (gs : List Int) (b' : Int) (y : Option S), gs.Pairwise (· < ·) ∧ gs.length ≤ 6 ∧ (∀ g ∈ gs, 0 ≤ g ∧ g ≤ top - 1) ∧
    lp (gNm [] 6) b__law_righting_f1 (rgD 0 top.toNat) [some (.v Pd), some (.v (.int 0)), some (.v pk), some (.v (.int top)), some (.v (.int bits)), some (.o (.lst [])), none, none, none, none, none, none, none, none] =
      .ok (.next [some (.v Pd), some (.v (.int 0)), some (.v pk), some (.v (.int top)), some (.v (.int b')), some (.o (.lst (gs.map .int))), y, none, none, none, none, none, none, none]) := by
  obtain ⟨ρ', e1, gs, b', y, e, hp, hl, hg⟩ := lp_numM (t := gNm [] 6) (f := b__law_righting_f1) (h := fun k : Nat => D.int (0 + (k : Int))) (List.range top.toNat) (fun i ρ => ∃ (gs : List Int) (b' : Int) (y : Option S), ρ = [some (.v Pd), some (.v (.int 0)), some (.v pk), some (.v (.int top)), some (.v (.int b')), some (.o (.lst (gs.map .int))), y, none, none, none, none, none, none, none] ∧ gs.Pairwise (· < ·) ∧ gs.length ≤ 6 ∧ ∀ g ∈ gs, 0 ≤ g ∧ g < (i : Int))
    [some (.v Pd), some (.v (.int 0)), some (.v pk), some (.v (.int top)), some (.v (.int bits)), some (.o (.lst [])), none, none, none, none, none, none, none, none] ⟨[], bits, none, rfl, .nil, by simp, fun _ h => by cases h⟩ (fun i k ρ hk ⟨gs, b', y, hx, hp, hl, hg⟩ => by
      subst hx
      have hik : k = i := by
        obtain ⟨h, e⟩ := List.getElem?_eq_some_iff.mp hk
        simpa using e.symm
      subst hik
      have hl2 : Nat.log2 2 < 9000 := by decide
      by_cases c1 : b' % 2 = 1 ∧ gs.length < 6
      · refine ⟨_, rfl, [some (.v Pd), some (.v (.int 0)), some (.v pk), some (.v (.int top)), some (.v (.int (b' / 2))), some (.o (.lst ((gs ++ [(k : Int)]).map .int))), some (.v (.int (0 + (k : Int)))), none, none, none, none, none, none, none], ?_, gs ++ [(k : Int)], b' / 2, _, rfl, ?_, by simp; omega, ?_⟩
        · have c2 := c1.1
          have c3 : ((gs.length : Nat) : Int) < 6 := by omega
          have c4 : gs.length < 16777216 := by omega
          simp [b__law_righting_f1, c2, c3, c4, hl2]
        · rw [List.pairwise_append]
          refine ⟨hp, by simp, fun a ha b hb => ?_⟩
          rw [List.mem_singleton.mp hb]
          exact (hg a ha).2
        · intro g hg'
          rcases List.mem_append.mp hg' with h | h
          · have := hg g h
            omega
          · have := List.mem_singleton.mp h
            omega
      · refine ⟨_, rfl, [some (.v Pd), some (.v (.int 0)), some (.v pk), some (.v (.int top)), some (.v (.int (b' / 2))), some (.o (.lst (gs.map .int))), some (.v (.int (0 + (k : Int)))), none, none, none, none, none, none, none], ?_, gs, b' / 2, _, rfl, hp, hl, fun g h => by have := hg g h; omega⟩
        by_cases c2 : b' % 2 = 1
        · have c3 : ¬ ((gs.length : Nat) : Int) < 6 := fun z => c1 ⟨c2, by omega⟩
          simp [b__law_righting_f1, c2, c3, hl2]
        · simp [b__law_righting_f1, c2, hl2])
  rw [List.length_range] at hg
  refine ⟨gs, b', y, hp, hl, fun g h => by have := hg g h; omega, ?_⟩
  rw [← e]
  exact e1
theorem r_fi (P : List Int) (hP : PoolOk P) (pk bt gd : D) (y : Option S) (top n : Int) (h1 : 1 ≤ top) (h2 : top ≤ 12) (hn : n ≤ 4) : ∃ (fs : List (Int × Int)) (ρ' : Rho) (u v w z : Option S), fs.length ≤ 4 ∧ (∀ x ∈ fs, 1 ≤ x.1 ∧ x.1 ≤ top ∧ 0 ≤ x.2 ∧ x.2 ≤ x.1) ∧
    lp (gNm [] 8) b__law_righting_f2 (rgD 0 n.toNat) [some (.v (.lst (P.map .int))), some (.v (.int 0)), some (.v pk), some (.v (.int top)), some (.v bt), some (.o gd), y, some (.o (.lst [])), none, none, none, none, none, none] =
      .ok (.next [some (.v (.lst (P.map .int))), some (.v (.int 0)), some (.v pk), some (.v (.int top)), some (.v bt), some (.o gd), y, some (.o (.lst (fs.map fl))), u, none, none, v, w, z]) := by
  obtain ⟨ρ', e1, fs, u, v, w, z, e, hl, hg⟩ := lp_numM (t := gNm [] 8) (f := b__law_righting_f2) (h := fun k : Nat => D.int (0 + (k : Int))) (List.range n.toNat) (fun i ρ => ∃ (fs : List (Int × Int)) (u v w z : Option S), ρ = [some (.v (.lst (P.map .int))), some (.v (.int 0)), some (.v pk), some (.v (.int top)), some (.v bt), some (.o gd), y, some (.o (.lst (fs.map fl))), u, none, none, v, w, z] ∧ fs.length ≤ i ∧ ∀ x ∈ fs, 1 ≤ x.1 ∧ x.1 ≤ top ∧ 0 ≤ x.2 ∧ x.2 ≤ x.1)
    [some (.v (.lst (P.map .int))), some (.v (.int 0)), some (.v pk), some (.v (.int top)), some (.v bt), some (.o gd), y, some (.o (.lst [])), none, none, none, none, none, none] ⟨[], _, _, _, _, rfl, by simp, fun _ h => by cases h⟩ (fun i k ρ hk ⟨fs, u, v, w, z, hx, hl, hg⟩ => by
      subst hx
      have hik : k = i ∧ i < n.toNat := by
        obtain ⟨h, e⟩ := List.getElem?_eq_some_iff.mp hk
        exact ⟨by simpa using e.symm, by simpa using h⟩
      obtain ⟨hik, hi⟩ := hik
      subst hik
      obtain ⟨dr, d0, d1, hd⟩ := t_at P hP (3 + (k : Int)) (by omega) (by omega)
      have l3 : Nat.log2 3 < 9000 := by decide
      have l40 : Nat.log2 40 < 9000 := by decide
      have l280 : Nat.log2 280 < 9000 := by decide
      have ht : 0 < top := by omega
      have c0 := Int.emod_nonneg (dr / 3) (show top ≠ 0 by omega)
      have c1 := Int.emod_lt_of_pos (dr / 3) ht
      generalize hcut : dr / 3 % top = cu at c0 c1
      have hs : ∃ sl0 : Int, 0 ≤ sl0 ∧ L2.atI [D.int 0, D.int 0, D.int 1] (dr % 3) = some (.int sl0) := by
        have h1 := Int.emod_nonneg dr (show (3 : Int) ≠ 0 by omega)
        have h2 := Int.emod_lt_of_pos dr (show (0 : Int) < 3 by omega)
        have : dr % 3 = 0 ∨ dr % 3 = 1 ∨ dr % 3 = 2 := by omega
        rcases this with h | h | h
        · exact ⟨0, by omega, by rw [h]; rfl⟩
        · exact ⟨0, by omega, by rw [h]; rfl⟩
        · exact ⟨1, by omega, by rw [h]; rfl⟩
      obtain ⟨sl0, s0, hs⟩ := hs
      have hl3 : fs.length < 16777216 := by omega
      have hc1 : 0 < 1 + cu + 1 := by omega
      have e0 := Int.emod_nonneg (dr / 280) (show 1 + cu + 1 ≠ 0 by omega)
      have e1 := Int.emod_lt_of_pos (dr / 280) hc1
      obtain ⟨sl, q0, hsl⟩ : ∃ sl : Int, 0 ≤ sl ∧ sl = if dr / 40 % 7 = 0 then dr / 280 % (1 + cu + 1) else sl0 := by
        by_cases c : dr / 40 % 7 = 0
        · exact ⟨_, e0, by rw [if_pos c]⟩
        · exact ⟨sl0, s0, by rw [if_neg c]⟩
      refine ⟨_, rfl, [some (.v (.lst (P.map .int))), some (.v (.int 0)), some (.v pk), some (.v (.int top)), some (.v bt), some (.o gd), y, some (.o (.lst ((fs ++ [(1 + cu, if 1 + cu < sl then 1 + cu else sl)]).map fl))), some (.v (.int (0 + (k : Int)))), none, none, some (.v (.int dr)), some (.v (.int (1 + cu))), some (.v (.int sl))], ?_, fs ++ [(1 + cu, if 1 + cu < sl then 1 + cu else sl)], _, _, _, _, rfl, by simp; omega, ?_⟩
      · by_cases c : dr / 40 % 7 = 0
        · rw [if_pos c] at hsl
          subst hsl
          simp [b__law_righting_f2, hd, l3, l40, l280, ht, hcut, hs, c, hc1, hl3, x_min2, fl]
        · rw [if_neg c] at hsl
          subst hsl
          simp [b__law_righting_f2, hd, l3, l40, l280, ht, hcut, hs, c, hc1, hl3, x_min2, fl]
      · intro x hx
        rcases List.mem_append.mp hx with h | h
        · exact hg x h
        · rw [List.mem_singleton.mp h]
          dsimp only
          split <;> omega)
  rw [List.length_range] at hl
  refine ⟨fs, ρ', u, v, w, z, by omega, hg, ?_⟩
  rw [← e]
  exact e1
end K17

namespace K17
open PL PySem Std
theorem t_righting (P : List Int) (hP : PoolOk P) : ∃ s : Sj, s.Ok ∧ m__law_righting [.lst (P.map .int), .int 0] = .ok (.v s.d) := by
  obtain ⟨p, p0, p1, hp⟩ := t_at P hP 0 (by omega) (by omega)
  obtain ⟨a1, _, _, ha1⟩ := t_at P hP 1 (by omega) (by omega)
  obtain ⟨a2, b20, b21, ha2⟩ := t_at P hP 2 (by omega) (by omega)
  obtain ⟨a7, _, _, ha7⟩ := t_at P hP 7 (by omega) (by omega)
  obtain ⟨a8, _, _, ha8⟩ := t_at P hP 8 (by omega) (by omega)
  obtain ⟨a9, _, _, ha9⟩ := t_at P hP 9 (by omega) (by omega)
  obtain ⟨a10, _, _, ha10⟩ := t_at P hP 10 (by omega) (by omega)
  obtain ⟨a11, _, _, ha11⟩ := t_at P hP 11 (by omega) (by omega)
  obtain ⟨top, ht, t1, t2⟩ : ∃ top : Int, top = (if p / 8 % 6 = 0 then 9 + p / 48 % 4 else 1 + p % 8) ∧ 1 ≤ top ∧ top ≤ 12 := by
    refine ⟨_, rfl, ?_, ?_⟩ <;> split <;> omega
  obtain ⟨gs, b', y, hgp, hgl, hgr, hga⟩ := r_ga (.lst (P.map .int)) (.int p) top (a1 * 5 + p / 200) t1 t2
  obtain ⟨fs, ρf, u, v, w, z, hfl, hfr, hfi⟩ := r_fi P hP (.int p) (.int b') (.lst (gs.map .int)) y top (a2 % 5) t1 t2 (by omega)
  obtain ⟨s0, s1, q1, q2, q3, hs⟩ := t_pair a7 a8 top (by omega)
  obtain ⟨g0', g1', r1, r2, r3, hg⟩ := t_pair a9 a10 top (by omega)
  have hm0 := Int.emod_nonneg (a9 % 3) (show top + 1 ≠ 0 by omega)
  have hm1 := Int.emod_lt_of_pos (a9 % 3) (show 0 < top + 1 by omega)
  obtain ⟨g0, g1, hgg, k1, k2, k3⟩ : ∃ g0 g1 : Int, st g0 g1 = (if 0 < a11 % 3 then st 0 (a9 % 3 % (top + 1)) else st g0' g1') ∧ 0 ≤ g0 ∧ g0 ≤ g1 ∧ g1 ≤ top := by
    by_cases c : 0 < a11 % 3
    · exact ⟨0, _, by rw [if_pos c], by omega, hm0, by omega⟩
    · exact ⟨g0', g1', by rw [if_neg c], r1, r2, r3⟩
  refine ⟨⟨top, s0, s1, g0, g1, gs, fs⟩, ⟨t1, t2, q1, q2, q3, k1, k2, k3, hgp, hgl, hgr, hfl, hfr⟩, ?_⟩
  have l8 : Nat.log2 8 < 9000 := by decide
  have l48 : Nat.log2 48 < 9000 := by decide
  have l200 : Nat.log2 200 < 9000 := by decide
  have m5 : (5 : Int).natAbs < 18446744073709551616 := by decide
  have ht1 : 0 < top + 1 := by omega
  have i1 := x_int1' top ⟨by omega, by omega⟩
  have i2 := x_int1' (a2 % 5) ⟨by omega, by omega⟩
  have ee : Sj.d ⟨top, s0, s1, g0, g1, gs, fs⟩ = .tup [.int top, st s0 s1, st g0 g1, .tup (gs.map .int), .tup (fs.map fl)] := rfl
  rw [ee, hgg]
  by_cases c : p / 8 % 6 = 0
  · rw [if_pos c] at ht
    subst ht
    by_cases c2 : 0 < a11 % 3
    · simp [-x_mul, m__law_righting, b__law_righting, hp, ha1, ha2, ha7, ha8, ha9, ha10, ha11, l8, l48, l200, c, x_mulR m5, i1, hga, i2, hfi, hs, hg, c2, ht1]
      rfl
    · simp [-x_mul, m__law_righting, b__law_righting, hp, ha1, ha2, ha7, ha8, ha9, ha10, ha11, l8, l48, l200, c, x_mulR m5, i1, hga, i2, hfi, hs, hg, c2, ht1]
  · rw [if_neg c] at ht
    subst ht
    by_cases c2 : 0 < a11 % 3
    · simp [-x_mul, m__law_righting, b__law_righting, hp, ha1, ha2, ha7, ha8, ha9, ha10, ha11, l8, l48, l200, c, x_mulR m5, i1, hga, i2, hfi, hs, hg, c2, ht1]
      rfl
    · simp [-x_mul, m__law_righting, b__law_righting, hp, ha1, ha2, ha7, ha8, ha9, ha10, ha11, l8, l48, l200, c, x_mulR m5, i1, hga, i2, hfi, hs, hg, c2, ht1]
/-! all states -/
theorem t_states (top : Int) (h1 : 1 ≤ top) (h2 : top ≤ 12) : ∃ L : List (Int × Int), L ≠ [] ∧ L.length ≤ 1000 ∧ (∀ p ∈ L, 0 ≤ p.1 ∧ p.1 ≤ p.2 ∧ p.2 ≤ top) ∧ m__law_states [.int top] = .ok (.o (.lst (L.map fun p => st p.1 p.2))) := by
  have inner : ∀ (L : List (Int × Int)) (i : Nat) (y : Option S), (i : Int) ≤ top → L.length ≤ 20 * i → (∀ p ∈ L, 0 ≤ p.1 ∧ p.1 ≤ p.2 ∧ p.2 ≤ top) → ∃ (L' : List (Int × Int)) (y' : Option S), L' ≠ [] ∧ L'.length ≤ 20 * (i + 1) ∧ (∀ p ∈ L', 0 ≤ p.1 ∧ p.1 ≤ p.2 ∧ p.2 ≤ top) ∧
      lp (gNm [] 3) b__law_states_f1 (rgD i (top + 1 - i).toNat) [some (.v (.int top)), some (.o (.lst (L.map fun p => st p.1 p.2))), some (.v (.int i)), y] = .ok (.next [some (.v (.int top)), some (.o (.lst (L'.map fun p => st p.1 p.2))), some (.v (.int i)), y']) := fun L i y hi hl hL => by
    obtain ⟨ρ', e1, L', y', e, hn, hl', hL'⟩ := lp_numM (t := gNm [] 3) (f := b__law_states_f1) (h := fun k : Nat => D.int ((i : Int) + (k : Int))) (List.range (top + 1 - i).toNat) (fun j ρ => ∃ (L' : List (Int × Int)) (y' : Option S), ρ = [some (.v (.int top)), some (.o (.lst (L'.map fun p => st p.1 p.2))), some (.v (.int i)), y'] ∧ (0 < j → L' ≠ []) ∧ L'.length ≤ L.length + j ∧ ∀ p ∈ L', 0 ≤ p.1 ∧ p.1 ≤ p.2 ∧ p.2 ≤ top)
      [some (.v (.int top)), some (.o (.lst (L.map fun p => st p.1 p.2))), some (.v (.int i)), y] ⟨L, y, rfl, by omega, by omega, hL⟩ (fun j k ρ hk ⟨L', y', hx, hn, hl', hL'⟩ => by
        subst hx
        obtain ⟨hk1, hk2⟩ := List.getElem?_eq_some_iff.mp hk
        have hjk : k = j := by simpa using hk2.symm
        have hj : j < (top + 1 - i).toNat := by simpa using hk1
        subst hjk
        have hl3 : L'.length < 16777216 := by omega
        refine ⟨_, rfl, [some (.v (.int top)), some (.o (.lst ((L' ++ [((i : Int), (i : Int) + k)]).map fun p => st p.1 p.2))), some (.v (.int i)), some (.v (.int ((i : Int) + k)))], by simp [b__law_states_f1, hl3, st], L' ++ [((i : Int), (i : Int) + k)], _, rfl, by simp, by simp; omega, fun p hp => ?_⟩
        rcases List.mem_append.mp hp with h | h
        · exact hL' p h
        · rw [List.mem_singleton.mp h]
          dsimp only
          omega)
    rw [List.length_range] at hn hl'
    refine ⟨L', y', hn (by omega), by omega, hL', ?_⟩
    rw [← e]
    exact e1
  obtain ⟨ρ', e1, L, x, y, e, hn, hl, hL⟩ := lp_numM (t := gNm [] 2) (f := b__law_states_f2) (h := fun k : Nat => D.int (0 + (k : Int))) (List.range (top + 1).toNat) (fun j ρ => ∃ (L : List (Int × Int)) (x y : Option S), ρ = [some (.v (.int top)), some (.o (.lst (L.map fun p => st p.1 p.2))), x, y] ∧ (0 < j → L ≠ []) ∧ L.length ≤ 20 * j ∧ ∀ p ∈ L, 0 ≤ p.1 ∧ p.1 ≤ p.2 ∧ p.2 ≤ top)
    [some (.v (.int top)), some (.o (.lst [])), none, none] ⟨[], _, _, rfl, by omega, by simp, fun _ h => by cases h⟩ (fun j k ρ hk ⟨L, x, y, hx, hn, hl, hL⟩ => by
      subst hx
      obtain ⟨hk1, hk2⟩ := List.getElem?_eq_some_iff.mp hk
      have hjk : k = j := by simpa using hk2.symm
      have hj : j < (top + 1).toNat := by simpa using hk1
      subst hjk
      obtain ⟨L', y', hn', hl', hL', e'⟩ := inner L k y (by omega) hl hL
      refine ⟨_, rfl, [some (.v (.int top)), some (.o (.lst (L'.map fun p => st p.1 p.2))), some (.v (.int k)), y'], ?_, L', _, y', rfl, fun _ => hn', hl', hL'⟩
      have i2 := x_int2 (k : Int) (top + 1) ⟨by omega, by omega, by omega, by omega⟩
      simp [b__law_states_f2, i2]
      rw [show (top + 1).toNat - k = (top + 1 - (k : Int)).toNat by omega]
      exact e')
  rw [List.length_range] at hn hl
  refine ⟨L, hn (by omega), by omega, hL, ?_⟩
  have i1 := x_int1' (top + 1) ⟨by omega, by omega⟩
  simp [m__law_states, b__law_states, i1]
  rw [show rgD 0 (top + 1).toNat = (List.range (top + 1).toNat).map (fun k : Nat => D.int (0 + (k : Int))) from rfl, e1]
  subst e
  simp
end K17

namespace K17
open PL PySem Std
section
variable (s : Sj) (o : s.Ok)
include o
theorem bad_pair (d : D) (h : m_is_state [.int s.top, d] = .ok (.v (.bl false))) : E (.tup [.int s.top, d, .tup [.int s.g0, .int s.g1], .tup (s.gs.map .int), .tup (s.fs.map fl)]) ∧ E (.tup [.int s.top, .tup [.int s.s0, .int s.s1], d, .tup (s.gs.map .int), .tup (s.fs.map fl)]) :=
  ⟨c3 _ _ _ _ _ o.t1 o.t2 false true h (fun z => by cases z) rfl, c3 _ _ _ _ _ o.t1 o.t2 true false (st_s s o) (fun _ => h) rfl⟩
theorem bad_gau (g : D) (hg : noD g = true) (v : Bool) (hr : isTup 0 6 g = true → m_is_rising [g] = .ok (.v (.bl v))) (hv : (isTup 0 6 g && v) = false) : E (.tup [.int s.top, .tup [.int s.s0, .int s.s1], .tup [.int s.g0, .int s.g1], g, .tup (s.fs.map fl)]) :=
  c4 _ _ _ _ _ o.t1 o.t2 (st_s s o) (st_g s o) hg v hr hv
theorem bad_gau2 (gs : List Int) (hl : gs.length ≤ 6) (hp : gs.Pairwise (· < ·)) (hx : (gs.all fun i => decide (0 ≤ i) && decide (i ≤ s.top - 1)) = false) : E (.tup [.int s.top, .tup [.int s.s0, .int s.s1], .tup [.int s.g0, .int s.g1], .tup (gs.map .int), .tup (s.fs.map fl)]) :=
  c5 _ _ _ _ _ o.t1 o.t2 (st_s s o) (st_g s o) hl hp hx
theorem bad_fil (f : D) (hf : noD f = true) (h : isTup 0 4 f = false) : E (.tup [.int s.top, .tup [.int s.s0, .int s.s1], .tup [.int s.g0, .int s.g1], .tup (s.gs.map .int), f]) :=
  c6 _ _ _ _ _ o.t1 o.t2 (st_s s o) (st_g s o) o.l o.r (gs_ok s o) hf h
theorem bad_fil2 (d : D) (h : m_is_file [.int s.top, d] = .ok (.v (.bl false))) : E (.tup [.int s.top, .tup [.int s.s0, .int s.s1], .tup [.int s.g0, .int s.g1], .tup (s.gs.map .int), .tup [d]]) :=
  (c7 _ _ _ _ o.t1 o.t2 (st_s s o) (st_g s o) o.l o.r (gs_ok s o) [d] (fun _ => false) (fun d' hd => by rw [List.mem_singleton.mp hd]; exact h) (by simp)).1 rfl
/-- the loop over pairs -/
theorem r_b1 (ps : List D) (hps : ps.length ≤ 100) (hb : ∀ d ∈ ps, m_is_state [.int s.top, d] = .ok (.v (.bl false))) (L : List D) (hL : ∀ d ∈ L, E d) (hl : L.length ≤ 1000) :
    ∃ (L' : List D) (y : Option S), (∀ d ∈ L', E d) ∧ L'.length ≤ 1200 ∧ lp (gNm [] 3) b__law_bad_subjects_f1 ps [some (.v s.d), some (.v (.int s.top)), some (.o (.lst L)), none, none, none] = .ok (.next [some (.v s.d), some (.v (.int s.top)), some (.o (.lst L')), y, none, none]) := by
  obtain ⟨ρ', e1, L', y, e, hL', hl'⟩ := lp_numM (t := gNm [] 3) (f := b__law_bad_subjects_f1) (h := id) ps (fun i ρ => ∃ (L' : List D) (y : Option S), ρ = [some (.v s.d), some (.v (.int s.top)), some (.o (.lst L')), y, none, none] ∧ (∀ d ∈ L', E d) ∧ L'.length ≤ 1000 + 2 * i)
    [some (.v s.d), some (.v (.int s.top)), some (.o (.lst L)), none, none, none] ⟨L, none, rfl, hL, by omega⟩ (fun i d ρ hd ⟨L', y, hx, hL', hl'⟩ => by
      subst hx
      have hi : i < ps.length := (List.getElem?_eq_some_iff.mp hd).1
      have h1 : L'.length < 16777216 := by omega
      have h2 : L'.length + 1 < 16777216 := by omega
      obtain ⟨e1, e2⟩ := bad_pair s o d (hb d (List.mem_of_getElem? hd))
      refine ⟨_, rfl, [some (.v s.d), some (.v (.int s.top)), some (.o (.lst (L' ++ [.tup [.int s.top, d, .tup [.int s.g0, .int s.g1], .tup (s.gs.map .int), .tup (s.fs.map fl)], .tup [.int s.top, .tup [.int s.s0, .int s.s1], d, .tup (s.gs.map .int), .tup (s.fs.map fl)]]))), some (.v d), none, none], ?_, _, _, rfl, ?_, by simp; omega⟩
      · simp [b__law_bad_subjects_f1, Sj.d, cutG, HT.sIx, h1, h2]
      · intro x hx
        rcases List.mem_append.mp hx with h | h
        · exact hL' x h
        · rcases List.mem_cons.mp h with h | h
          · rw [h]; exact e1
          · rw [List.mem_singleton.mp h]; exact e2)
  rw [List.map_id] at e1
  exact ⟨L', y, hL', by omega, by rw [← e]; exact e1⟩
theorem r_b2 (ps : List D) (hps : ps.length ≤ 100) (y z : Option S) (hb : ∀ d ∈ ps, E (.tup [.int s.top, .tup [.int s.s0, .int s.s1], .tup [.int s.g0, .int s.g1], d, .tup (s.fs.map fl)])) (L : List D) (hL : ∀ d ∈ L, E d) (hl : L.length ≤ 2000) :
    ∃ (L' : List D) (x : Option S), (∀ d ∈ L', E d) ∧ L'.length ≤ 2100 ∧ lp (gNm [] 4) b__law_bad_subjects_f2 ps [some (.v s.d), some (.v (.int s.top)), some (.o (.lst L)), y, z, none] = .ok (.next [some (.v s.d), some (.v (.int s.top)), some (.o (.lst L')), y, x, none]) := by
  obtain ⟨ρ', e1, L', x, e, hL', hl'⟩ := lp_numM (t := gNm [] 4) (f := b__law_bad_subjects_f2) (h := id) ps (fun i ρ => ∃ (L' : List D) (x : Option S), ρ = [some (.v s.d), some (.v (.int s.top)), some (.o (.lst L')), y, x, none] ∧ (∀ d ∈ L', E d) ∧ L'.length ≤ 2000 + i)
    [some (.v s.d), some (.v (.int s.top)), some (.o (.lst L)), y, z, none] ⟨L, z, rfl, hL, by omega⟩ (fun i d ρ hd ⟨L', x, hx, hL', hl'⟩ => by
      subst hx
      have hi : i < ps.length := (List.getElem?_eq_some_iff.mp hd).1
      have h1 : L'.length < 16777216 := by omega
      refine ⟨_, rfl, [some (.v s.d), some (.v (.int s.top)), some (.o (.lst (L' ++ [.tup [.int s.top, .tup [.int s.s0, .int s.s1], .tup [.int s.g0, .int s.g1], d, .tup (s.fs.map fl)]]))), y, some (.v d), none], ?_, _, _, rfl, ?_, by simp; omega⟩
      · simp [b__law_bad_subjects_f2, Sj.d, h1]
      · intro x hx
        rcases List.mem_append.mp hx with h | h
        · exact hL' x h
        · rw [List.mem_singleton.mp h]; exact hb d (List.mem_of_getElem? hd))
  rw [List.map_id] at e1
  exact ⟨L', x, hL', by omega, by rw [← e]; exact e1⟩
theorem r_b3 (ps : List D) (hps : ps.length ≤ 100) (y z w : Option S) (hb : ∀ d ∈ ps, E (.tup [.int s.top, .tup [.int s.s0, .int s.s1], .tup [.int s.g0, .int s.g1], .tup (s.gs.map .int), d])) (L : List D) (hL : ∀ d ∈ L, E d) (hl : L.length ≤ 3000) :
    ∃ (L' : List D) (x : Option S), (∀ d ∈ L', E d) ∧ L'.length ≤ 3100 ∧ lp (gNm [] 5) b__law_bad_subjects_f3 ps [some (.v s.d), some (.v (.int s.top)), some (.o (.lst L)), y, z, w] = .ok (.next [some (.v s.d), some (.v (.int s.top)), some (.o (.lst L')), y, z, x]) := by
  obtain ⟨ρ', e1, L', x, e, hL', hl'⟩ := lp_numM (t := gNm [] 5) (f := b__law_bad_subjects_f3) (h := id) ps (fun i ρ => ∃ (L' : List D) (x : Option S), ρ = [some (.v s.d), some (.v (.int s.top)), some (.o (.lst L')), y, z, x] ∧ (∀ d ∈ L', E d) ∧ L'.length ≤ 3000 + i)
    [some (.v s.d), some (.v (.int s.top)), some (.o (.lst L)), y, z, w] ⟨L, w, rfl, hL, by omega⟩ (fun i d ρ hd ⟨L', x, hx, hL', hl'⟩ => by
      subst hx
      have hi : i < ps.length := (List.getElem?_eq_some_iff.mp hd).1
      have h1 : L'.length < 16777216 := by omega
      refine ⟨_, rfl, [some (.v s.d), some (.v (.int s.top)), some (.o (.lst (L' ++ [.tup [.int s.top, .tup [.int s.s0, .int s.s1], .tup [.int s.g0, .int s.g1], .tup (s.gs.map .int), d]]))), y, z, some (.v d)], ?_, _, _, rfl, ?_, by simp; omega⟩
      · simp [b__law_bad_subjects_f3, Sj.d, h1]
      · intro x hx
        rcases List.mem_append.mp hx with h | h
        · exact hL' x h
        · rw [List.mem_singleton.mp h]; exact hb d (List.mem_of_getElem? hd))
  rw [List.map_id] at e1
  exact ⟨L', x, hL', by omega, by rw [← e]; exact e1⟩
theorem t_bad : ∃ L : List D, (∀ d ∈ L, E d) ∧ m__law_bad_subjects [s.d] = .ok (.o (.lst L)) := by
  have h1 := o.t1
  have h2 := o.t2
  obtain ⟨L1, y, hL1, hl1, e1⟩ := r_b1 s o [.tup [.int 0, .int (s.top + 1)], .tup [.int 1, .int 0], .tup [.int (-1), .int 0], .tup [.bl false, .int 0], .tup [.int 0], .non] (by simp) (fun d hd => by
    simp only [List.mem_cons, List.not_mem_nil, or_false] at hd
    rcases hd with rfl | rfl | rfl | rfl | rfl | rfl
    · rw [t_state _ _ _ (by simp) (by simp)]; simp [isSt]; omega
    · rw [t_state _ _ _ (by simp) (by simp)]; simp [isSt]
    · rw [t_state _ _ _ (by simp) (by simp)]; simp [isSt]
    · rw [t_state _ _ _ (by simp) (by simp)]; simp [isSt]
    · exact t_state0 _ _ (by simp) (by simp)
    · exact t_state0 _ _ (by simp) (by simp))
    [.tup [.int 0, .tup [.int s.s0, .int s.s1], .tup [.int s.g0, .int s.g1], .tup (s.gs.map .int), .tup (s.fs.map fl)], .tup [.int 13, .tup [.int s.s0, .int s.s1], .tup [.int s.g0, .int s.g1], .tup (s.gs.map .int), .tup (s.fs.map fl)], .tup [.bl true, .tup [.int s.s0, .int s.s1], .tup [.int s.g0, .int s.g1], .tup (s.gs.map .int), .tup (s.fs.map fl)],
      .tup [.int s.top, .tup [.int s.s0, .int s.s1], .tup [.int s.g0, .int s.g1], .tup (s.gs.map .int)], .lst [.int s.top, .tup [.int s.s0, .int s.s1], .tup [.int s.g0, .int s.g1], .tup (s.gs.map .int), .tup (s.fs.map fl)]] (fun d hd => by
    simp only [List.mem_cons, List.not_mem_nil, or_false] at hd
    rcases hd with rfl | rfl | rfl | rfl | rfl
    · exact c2 _ _ _ _ _ (by simp) (by simp)
    · exact c2 _ _ _ _ _ (by simp) (by simp)
    · exact c2 _ _ _ _ _ (by simp) (by simp)
    · exact c1 _ (by simp) (by simp)
    · exact c1 _ (by simp) (by simp)) (by simp)
  obtain ⟨L2, z, hL2, hl2, e2⟩ := r_b2 s o [.tup [.int s.top], .tup [.int (-1)], .tup [.int 0, .int 0], .tup [.int 1, .int 0], .tup [.bl false], .lst (s.gs.map .int), .tup [.int 0, .int 1, .int 2, .int 3, .int 4, .int 5, .int 6]] (by simp) y none (fun d hd => by
    simp only [List.mem_cons, List.not_mem_nil, or_false] at hd
    rcases hd with rfl | rfl | rfl | rfl | rfl | rfl | rfl
    · exact bad_gau2 s o [s.top] (by simp) (by simp) (by simp; omega)
    · exact bad_gau2 s o [-1] (by simp) (by simp) (by simp)
    · refine bad_gau s o _ (by simp) false (fun _ => ?_) (by simp)
      simp [m_is_rising, b_is_rising, x_lp1, b_is_rising_f1, t_w, x_int2, rgD, List.range, List.range.loop, b_is_rising_f2]
    · refine bad_gau s o _ (by simp) false (fun _ => ?_) (by simp)
      simp [m_is_rising, b_is_rising, x_lp1, b_is_rising_f1, t_w, x_int2, rgD, List.range, List.range.loop, b_is_rising_f2]
    · refine bad_gau s o _ (by simp) false (fun _ => ?_) (by simp)
      simp [m_is_rising, b_is_rising, x_lp1, b_is_rising_f1, t_w, x_int2, rgD, List.range, List.range.loop, b_is_rising_f2]
    · exact bad_gau s o _ (by simp) true (fun z => by simp at z) (by simp)
    · exact bad_gau s o _ (by simp) true (fun z => by simp at z) (by simp)) L1 hL1 (by omega)
  obtain ⟨L3, w, hL3, hl3, e3⟩ := r_b3 s o [.tup [.tup [.int 0, .int 0]], .tup [.tup [.int (s.top + 1), .int 0]], .tup [.tup [.int 1, .int 2]], .tup [.tup [.int 1, .int (-1)]], .tup [.tup [.int 1]], .tup [.tup [.int 1, .int 0], .tup [.int 1, .int 0], .tup [.int 1, .int 0], .tup [.int 1, .int 0], .tup [.int 1, .int 0]], .non, .tup [.tup [.int 1, .bl false]]] (by simp) y z none (fun d hd => by
    simp only [List.mem_cons, List.not_mem_nil, or_false] at hd
    rcases hd with rfl | rfl | rfl | rfl | rfl | rfl | rfl | rfl
    · refine bad_fil2 s o _ ?_; rw [t_file _ _ _ (by simp) (by simp)]; simp [isFl]
    · refine bad_fil2 s o _ ?_; rw [t_file _ _ _ (by simp) (by simp)]; simp [isFl]; omega
    · refine bad_fil2 s o _ ?_; rw [t_file _ _ _ (by simp) (by simp)]; simp [isFl]
    · refine bad_fil2 s o _ ?_; rw [t_file _ _ _ (by simp) (by simp)]; simp [isFl]
    · refine bad_fil2 s o _ ?_; exact t_file0 _ _ (by simp) (by simp)
    · exact bad_fil s o _ (by simp) (by simp)
    · exact bad_fil s o _ (by simp) (by simp)
    · refine bad_fil2 s o _ ?_; rw [t_file _ _ _ (by simp) (by simp)]; simp [isFl]) L2 hL2 (by omega)
  refine ⟨L3, hL3, ?_⟩
  simp [m__law_bad_subjects, b__law_bad_subjects, Sj.d, cutG, HT.sIx, x_mulT] at e1 e2 e3 ⊢
  simp [e1, e2, x_mulT, List.replicate, e3]
end
end K17

namespace K17
open PL PySem Std
theorem look_bad : look cat_BadRighting "BadRighting" = some true := by decide +kernel
theorem t_refused (d : D) (h : E d) : m__law_refused [d] = .ok (.v (.bl true)) := by
  obtain ⟨ρ, hρ⟩ := isX_is h
  simp [m__law_refused, b__law_refused, x_sTry, hρ, look_bad]
section
variable (s : Sj) (o : s.Ok)
include o
theorem t_no_state (d : D) (h : m_is_state [.int s.top, d] = .ok (.v (.bl false))) : m__law_no_state [s.d, d] = .ok (.v (.bl true)) := by
  obtain ⟨ρ, hρ⟩ := isX_is (t_csX s o d h)
  simp [m__law_no_state, b__law_no_state, x_sTry, m_moves, b_moves, hρ, look_bad]
theorem t_out0 (a b : Int) (h0 : 0 ≤ a) (h1 : a ≤ b) (h2 : b ≤ s.top) (d : D) (h : m_is_move_at [s.d, st a b, d] = .ok (.v (.bl false))) : m_outcomes [s.d, st a b, d] = .ok (.v .non) := by
  have hc := t_cs s o a b h0 h1 h2
  simp [st] at *
  simp [m_outcomes, b_outcomes, hc, h]
theorem nm1 (a b : Int) (d : D) (h : noD d = true) (hd : isTup 2 2 d = false) : m_is_move_at [s.d, st a b, d] = .ok (.v (.bl false)) := by
  simp [m_is_move_at, b_is_move_at, t_tup, h, hd]
theorem nm2 (a b : Int) (w : Str) (k : Bool) : m_is_move_at [s.d, st a b, .tup [.str w, .bl k]] = .ok (.v (.bl false)) := by
  simp [m_is_move_at, b_is_move_at, t_tup, t_w]
theorem pick_self (a b : Int) (w : Str) (t : Int) (h : pr w (.int t) ∈ mvL s a b) : pick s a b w t = true := List.any_eq_true.mpr ⟨_, h, by rw [eq_pr]; simp⟩
theorem mvL_len (a b : Int) : (mvL s a b).length ≤ 10 := by
  have h1 := gaL_len s o a b
  have h2 : (fiL s a).length ≤ 4 := by
    unfold fiL
    rw [List.length_map]
    exact Nat.le_trans (List.length_filter_le _ _) (by rw [List.length_zipIdx]; exact o.fl)
  unfold mvL
  rw [List.length_append]
  omega
theorem nice_mv (a b : Int) : nice 2 (.tup (mvL s a b)) := by
  have := mvL_len s o a b
  refine ⟨by omega, fun d hd => ?_⟩
  rcases mv_shape s o a b d hd with ⟨g, rfl⟩ | ⟨j, p, _, rfl⟩ <;> exact ⟨by simp, by simp [nice]⟩
theorem same2 (d : D) (h : nice 2 d) : m__law_same [d, d] = .ok (.v (.bl true)) := same_ok 2 40 d h (by omega)
theorem l_f1 (ns Pd x4 x5 x6 x7 x9 x10 x11) (a b : Int) (h0 : 0 ≤ a) (h1 : a ≤ b) (h2 : b ≤ s.top) (d : D) (hd : d ∈ mvL s a b) : b_law_f1 [ns, Pd, some (.v s.d), some (.v (st a b)), x4, x5, x6, x7, some (.v d), x9, x10, x11] = .ok (.next [ns, Pd, some (.v s.d), some (.v (st a b)), x4, x5, x6, x7, some (.v d), x9, x10, x11]) := by
  obtain ⟨w, t, hw, rfl⟩ : ∃ w t, PyData.strOk w = true ∧ d = pr w (.int t) := by
    rcases mv_shape s o a b d hd with ⟨g, rfl⟩ | ⟨j, p, _, rfl⟩
    · exact ⟨_, _, by decide +kernel, rfl⟩
    · exact ⟨_, _, by decide +kernel, rfl⟩
  have hp := pick_self s o a b w t hd
  have e1 := t_out s o a b h0 h1 h2 w t hw
  rw [if_pos hp] at e1
  have e2 := t_law_out s o a b w t hp
  have e3 := same2 s o _ (nice_out s o a b w t)
  simp [b_law_f1, e1, e2, e3]
theorem l_f2 (ns Pd x4 x5 x6 x7 x8 x9 x10 x11) (a b : Int) (h0 : 0 ≤ a) (h1 : a ≤ b) (h2 : b ≤ s.top) : ∃ y7 y8, b_law_f2 [ns, Pd, some (.v s.d), some (.v (st a b)), x4, x5, x6, x7, x8, x9, x10, x11] = .ok (.next [ns, Pd, some (.v s.d), some (.v (st a b)), x4, x5, x6, y7, y8, x9, x10, x11]) := by
  have e1 := t_law_moves s o a b
  have e2 := t_done s o a b h0 h1 h2
  have e3 := t_law_done s o a b
  have e4 := same2 s o (.bl (decide (s.g0 ≤ a) && decide (b ≤ s.g1))) trivial
  have e5 := t_moves s o a b h0 h1 h2
  have e6 := same2 s o _ (nice_mv s o a b)
  obtain ⟨ρ', e7, y8, e⟩ := lp_inv (t := gNm [] 8) (f := b_law_f1) (fun ρ => ∃ y8, ρ = [ns, Pd, some (.v s.d), some (.v (st a b)), x4, x5, x6, some (.v (.lst (mvL s a b))), y8, x9, x10, x11]) (mvL s a b) [ns, Pd, some (.v s.d), some (.v (st a b)), x4, x5, x6, some (.v (.lst (mvL s a b))), x8, x9, x10, x11] ⟨_, rfl⟩ (fun d ρ hd ⟨y, hx⟩ => by
    subst hx
    exact ⟨_, rfl, _, l_f1 s o ns Pd x4 x5 x6 _ x9 x10 x11 a b h0 h1 h2 d hd, _, rfl⟩)
  refine ⟨some (.v (.lst (mvL s a b))), y8, ?_⟩
  simp [b_law_f2, e1, e2, e3, e4, e5, e6]
  rw [← e]
  exact e7
theorem l_f3 (ns Pd x5 x6 x7 x8 x10 x11) (a b : Int) (h0 : 0 ≤ a) (h1 : a ≤ b) (h2 : b ≤ s.top) (w : Str) (hw : PyData.strOk w = true) (t : Int) : ∃ y10 y11, b_law_f3 [ns, Pd, some (.v s.d), some (.v (st a b)), some (.v (.int t)), x5, x6, x7, x8, some (.v (.str w)), x10, x11] = .ok (.next [ns, Pd, some (.v s.d), some (.v (st a b)), some (.v (.int t)), x5, x6, x7, x8, some (.v (.str w)), y10, y11]) := by
  have e1 := t_out s o a b h0 h1 h2 w t hw
  have e2 := t_law_moves s o a b
  have e3 : dIn (.tup [.str w, .int t]) (.lst (mvL s a b)) = some (pick s a b w t) := in_mv s o a b w t hw
  cases hp : pick s a b w t with
  | true =>
    have e4 := t_law_out s o a b w t hp
    have e5 := same2 s o _ (nice_out s o a b w t)
    rw [if_pos hp] at e1
    rw [hp] at e3
    simp [pr] at *
    refine ⟨some (.v (outD s a b w t)), some (.v (outD s a b w t)), ?_⟩
    simp [b_law_f3, e1, e2, e3, e4, e5]
  | false =>
    have e5 := same2 s o .non trivial
    rw [if_neg (by rw [hp]; decide)] at e1
    rw [hp] at e3
    simp [pr] at *
    refine ⟨some (.v .non), some (.v .non), ?_⟩
    simp [b_law_f3, e1, e2, e3, e5]
theorem l_f4 (ns Pd x5 x6 x7 x8 x9 x10 x11) (a b : Int) (h0 : 0 ≤ a) (h1 : a ≤ b) (h2 : b ≤ s.top) (t : Int) : ∃ y9 y10 y11, b_law_f4 [ns, Pd, some (.v s.d), some (.v (st a b)), some (.v (.int t)), x5, x6, x7, x8, x9, x10, x11] = .ok (.next [ns, Pd, some (.v s.d), some (.v (st a b)), some (.v (.int t)), x5, x6, x7, x8, y9, y10, y11]) := by
  obtain ⟨ρ', e7, y9, y10, y11, e⟩ := lp_invM (t := gNm [] 9) (f := b_law_f3) (h := D.str) (fun ρ => ∃ y9 y10 y11, ρ = [ns, Pd, some (.v s.d), some (.v (st a b)), some (.v (.int t)), x5, x6, x7, x8, y9, y10, y11]) ["gauge", "file", "rub"] [ns, Pd, some (.v s.d), some (.v (st a b)), some (.v (.int t)), x5, x6, x7, x8, x9, x10, x11] ⟨_, _, _, rfl⟩ (fun w ρ hw ⟨y9, y10, y11, hx⟩ => by
    subst hx
    have hw : PyData.strOk w = true := by
      simp only [List.mem_cons, List.not_mem_nil, or_false] at hw
      rcases hw with rfl | rfl | rfl <;> decide +kernel
    obtain ⟨z10, z11, hz⟩ := l_f3 s o ns Pd x5 x6 x7 x8 y10 y11 a b h0 h1 h2 w hw t
    exact ⟨_, rfl, _, hz, _, _, _, rfl⟩)
  subst e
  refine ⟨y9, y10, y11, ?_⟩
  simp only [List.map_cons, List.map_nil] at e7
  simp [b_law_f4, e7]
/-- the odd moves -/
theorem odd_moves (a b : Int) (h0 : 0 ≤ a) (h1 : a ≤ b) (h2 : b ≤ s.top) : ∀ d ∈ ([.tup [.str "gauge", .bl true], .tup [.str "gauge", .bl false], .tup [.str "file", .bl false], .tup [.str "file"], .lst [.str "file", .int 0], .non, .str "file", .tup [.str "file", .int 0, .int 0]] : List D), m_outcomes [s.d, st a b, d] = .ok (.v .non) := by
  intro d hd
  simp only [List.mem_cons, List.not_mem_nil, or_false] at hd
  rcases hd with rfl | rfl | rfl | rfl | rfl | rfl | rfl | rfl
  · exact t_out0 s o a b h0 h1 h2 _ (nm2 s o a b _ _)
  · exact t_out0 s o a b h0 h1 h2 _ (nm2 s o a b _ _)
  · exact t_out0 s o a b h0 h1 h2 _ (nm2 s o a b _ _)
  · exact t_out0 s o a b h0 h1 h2 _ (nm1 s o a b _ (by simp) (by simp))
  · exact t_out0 s o a b h0 h1 h2 _ (nm1 s o a b _ (by simp) (by simp))
  · exact t_out0 s o a b h0 h1 h2 _ (nm1 s o a b _ (by simp) (by simp))
  · exact t_out0 s o a b h0 h1 h2 _ (nm1 s o a b _ (by simp) (by simp))
  · exact t_out0 s o a b h0 h1 h2 _ (nm1 s o a b _ (by simp) (by simp))
theorem odd_states : ∀ d ∈ ([.tup [.int 0, .int (s.top + 1)], .tup [.int 1, .int 0], .tup [.int (-1), .int 0], .tup [.bl false, .int 1], .tup [.int 0], .lst [.int 0, .int 0], .non] : List D), m__law_no_state [s.d, d] = .ok (.v (.bl true)) := by
  intro d hd
  have h1 := o.t1
  simp only [List.mem_cons, List.not_mem_nil, or_false] at hd
  refine t_no_state s o d ?_
  rcases hd with rfl | rfl | rfl | rfl | rfl | rfl | rfl
  · rw [t_state _ _ _ (by simp) (by simp)]; simp [isSt]; omega
  · rw [t_state _ _ _ (by simp) (by simp)]; simp [isSt]
  · rw [t_state _ _ _ (by simp) (by simp)]; simp [isSt]
  · rw [t_state _ _ _ (by simp) (by simp)]; simp [isSt]
  · exact t_state0 _ _ (by simp) (by simp)
  · exact t_state0 _ _ (by simp) (by simp)
  · exact t_state0 _ _ (by simp) (by simp)
end
theorem plain (ns : List Int) (hns : ns.length ≤ 63) : m_law [.scr ns] = .ok (.v (.bl true)) := by
  obtain ⟨P, hP, p1⟩ := t_pool ns
  obtain ⟨s, o, p2⟩ := t_righting P hP
  obtain ⟨L, hLn, hLl, hL, p4⟩ := t_states s.top o.t1 o.t2
  obtain ⟨x20, x0, x1, p5⟩ := t_at P hP 20 (by omega) (by omega)
  obtain ⟨B, hB, p6⟩ := t_bad s o
  have p3 := t_check s o
  -- every state
  obtain ⟨ρ1, q1, u3, u7, u8, e1⟩ := lp_invM (t := gNm [] 3) (f := b_law_f2) (h := fun p : Int × Int => st p.1 p.2) (fun ρ => ∃ u3 u7 u8, ρ = [some (.v (.scr ns)), some (.v (.lst (P.map .int))), some (.v s.d), u3, none, none, none, u7, u8, none, none, none]) L [some (.v (.scr ns)), some (.v (.lst (P.map .int))), some (.v s.d), none, none, none, none, none, none, none, none, none] ⟨_, _, _, rfl⟩ (fun p ρ hp ⟨u3, u7, u8, hx⟩ => by
    subst hx
    obtain ⟨a, b⟩ := p
    obtain ⟨h0, h1, h2⟩ := hL _ hp
    obtain ⟨y7, y8, hy⟩ := l_f2 s o (some (.v (.scr ns))) (some (.v (.lst (P.map .int)))) none none none u7 u8 none none none a b h0 h1 h2
    exact ⟨_, rfl, _, hy, _, _, _, rfl⟩)
  subst e1
  -- one state
  have hl0 : 0 < L.length := List.length_pos_iff.mpr hLn
  have m0 := Int.emod_nonneg x20 (show (L.length : Int) ≠ 0 by omega)
  have m1 := Int.emod_lt_of_pos x20 (show (0 : Int) < L.length by omega)
  obtain ⟨j, hj⟩ : ∃ j : Nat, x20 % (L.length : Int) = j := ⟨(x20 % (L.length : Int)).toNat, by omega⟩
  have hjl : j < L.length := by omega
  have g1 : L2.atI (L.map fun p => st p.1 p.2) (j : Nat) = some (st L[j].1 L[j].2) := atI_ofNat _ _ _ (by rw [List.getElem?_map, List.getElem?_eq_getElem hjl]; rfl)
  obtain ⟨h0, h1, h2⟩ := hL _ (List.getElem_mem hjl)
  generalize L[j].1 = a at *
  generalize L[j].2 = b at *
  obtain ⟨ρ2, q2, v4, v9, v10, v11, e2⟩ := lp_invM (t := gNm [] 4) (f := b_law_f4) (h := fun k : Nat => D.int (-1 + (k : Int))) (fun ρ => ∃ v4 v9 v10 v11, ρ = [some (.v (.scr ns)), some (.v (.lst (P.map .int))), some (.v s.d), some (.v (st a b)), v4, none, none, u7, u8, v9, v10, v11]) (List.range 14) [some (.v (.scr ns)), some (.v (.lst (P.map .int))), some (.v s.d), some (.v (st a b)), none, none, none, u7, u8, none, none, none] ⟨_, _, _, _, rfl⟩ (fun k ρ hk ⟨v4, v9, v10, v11, hx⟩ => by
    subst hx
    obtain ⟨y9, y10, y11, hy⟩ := l_f4 s o (some (.v (.scr ns))) (some (.v (.lst (P.map .int)))) none none u7 u8 v9 v10 v11 a b h0 h1 h2 (-1 + (k : Int))
    exact ⟨_, rfl, _, hy, _, _, _, _, rfl⟩)
  subst e2
  obtain ⟨ρ3, q3, v5, e3⟩ := lp_inv (t := gNm [] 5) (f := b_law_f5) (fun ρ => ∃ v5, ρ = [some (.v (.scr ns)), some (.v (.lst (P.map .int))), some (.v s.d), some (.v (st a b)), v4, v5, none, u7, u8, v9, v10, v11]) [.tup [.str "gauge", .bl true], .tup [.str "gauge", .bl false], .tup [.str "file", .bl false], .tup [.str "file"], .lst [.str "file", .int 0], .non, .str "file", .tup [.str "file", .int 0, .int 0]] [some (.v (.scr ns)), some (.v (.lst (P.map .int))), some (.v s.d), some (.v (st a b)), v4, none, none, u7, u8, v9, v10, v11] ⟨_, rfl⟩ (fun d ρ hd ⟨v5, hx⟩ => by
    subst hx
    exact ⟨_, rfl, [some (.v (.scr ns)), some (.v (.lst (P.map .int))), some (.v s.d), some (.v (st a b)), v4, some (.v d), none, u7, u8, v9, v10, v11], by simp [b_law_f5, odd_moves s o a b h0 h1 h2 d hd], _, rfl⟩)
  subst e3
  obtain ⟨ρ4, q4, v5', e4⟩ := lp_inv (t := gNm [] 5) (f := b_law_f6) (fun ρ => ∃ v5, ρ = [some (.v (.scr ns)), some (.v (.lst (P.map .int))), some (.v s.d), some (.v (st a b)), v4, v5, none, u7, u8, v9, v10, v11]) [.tup [.int 0, .int (s.top + 1)], .tup [.int 1, .int 0], .tup [.int (-1), .int 0], .tup [.bl false, .int 1], .tup [.int 0], .lst [.int 0, .int 0], .non] [some (.v (.scr ns)), some (.v (.lst (P.map .int))), some (.v s.d), some (.v (st a b)), v4, v5, none, u7, u8, v9, v10, v11] ⟨_, rfl⟩ (fun d ρ hd ⟨v5, hx⟩ => by
    subst hx
    exact ⟨_, rfl, [some (.v (.scr ns)), some (.v (.lst (P.map .int))), some (.v s.d), some (.v (st a b)), v4, some (.v d), none, u7, u8, v9, v10, v11], by simp [b_law_f6, odd_states s o d hd], _, rfl⟩)
  subst e4
  obtain ⟨ρ5, q5, v6, e5⟩ := lp_inv (t := gNm [] 6) (f := b_law_f7) (fun ρ => ∃ v6, ρ = [some (.v (.scr ns)), some (.v (.lst (P.map .int))), some (.v s.d), some (.v (st a b)), v4, v5', v6, u7, u8, v9, v10, v11]) B [some (.v (.scr ns)), some (.v (.lst (P.map .int))), some (.v s.d), some (.v (st a b)), v4, v5', none, u7, u8, v9, v10, v11] ⟨_, rfl⟩ (fun d ρ hd ⟨v6, hx⟩ => by
    subst hx
    exact ⟨_, rfl, [some (.v (.scr ns)), some (.v (.lst (P.map .int))), some (.v s.d), some (.v (st a b)), v4, v5', some (.v d), u7, u8, v9, v10, v11], by simp [b_law_f7, t_refused d (hB d hd)], _, rfl⟩)
  subst e5
  have z0 : dIx s.d (.int 0) = some (.v (.int s.top)) := by simp [Sj.d]
  have i2 := x_int2 (-1) 13 (by decide)
  have rg : rgD (-1) 14 = (List.range 14).map (fun k : Nat => D.int (-1 + (k : Int))) := rfl
  simp [m_law, b_law, p1, p2, p3, z0, p4, q1, p5, hl0, hj, g1, i2, rg, q2, q3, q4, p6, q5]
end K17

open PySem PySem.W PyProof.Rows
set_option maxRecDepth 100000 in
set_option maxHeartbeats 0 in
theorem PySem.Challenge.cw_typefoundry_k17_moves_and_outcomes_holds : PySem.Challenge.rw_typefoundry_k17_moves_and_outcomes.Holds := by
  w_on; o_law; k_head; (case hw => w_witness2)
  k_fill
  refine L2.walk_of (l := PySem.Challenge.rw_typefoundry_k17_moves_and_outcomes) (n := 63) (k := 42) (x := "script") (CX := fun w => L2.CX PySem.Challenge.pw_typefoundry_k17_moves_and_outcomes w) (sp := fun w => PL.spL _) rfl (by decide) rfl ⟨rfl, by decide, by decide⟩ (fun w h Y => PySem.W.kIn_of Y) ?F (fun _ _ _ _ hl hO hS => PL.spL_of hl hO hS) (fun _ _ _ _ _ z => PL.noCX z)
  case F =>
    intro w mg fa h KX G hmg
    refine' K17.all_mk KX G hmg K17.plain ?g_BadRighting ?s_BadRighting ?t_BadRighting ?e_BadRighting ?k_BadRighting ?d_BadRighting ?ct_BadRighting_BadRighting ?v_DEEPEST ?v_MOST_FILES ?v_MOST_GAUGES ?n_abs ?n_all ?n_bool ?n_enumerate ?n_int ?n_isinstance ?n_len ?n_list ?n_min ?n_range ?n_str ?n_tuple ?a__law_pool ?l__law_pool ?c__law_pool ?k__law_pool ?a__law_pair ?l__law_pair ?c__law_pair ?k__law_pair ?a__law_at ?l__law_at ?c__law_at ?k__law_at ?a__law_righting ?l__law_righting ?c__law_righting ?k__law_righting ?a__law_states ?l__law_states ?c__law_states ?k__law_states ?a__law_bad_subjects ?l__law_bad_subjects ?c__law_bad_subjects ?k__law_bad_subjects ?a_is_tuple_of ?l_is_tuple_of ?c_is_tuple_of ?k_is_tuple_of ?a_is_whole ?l_is_whole ?c_is_whole ?k_is_whole ?a_is_whole_in ?l_is_whole_in ?c_is_whole_in ?k_is_whole_in ?a_is_state ?l_is_state ?c_is_state ?k_is_state ?a_is_rising ?l_is_rising ?c_is_rising ?k_is_rising ?a_is_file ?l_is_file ?c_is_file ?k_is_file ?a_check_righting ?l_check_righting ?c_check_righting ?k_check_righting ?a__law_moves ?l__law_moves ?c__law_moves ?k__law_moves ?a__law_same ?l__law_same ?c__law_same ?k__law_same ?a_check_state ?l_check_state ?c_check_state ?k_check_state ?a_outcomes_at ?l_outcomes_at ?c_outcomes_at ?k_outcomes_at ?a_moves_at ?l_moves_at ?c_moves_at ?k_moves_at ?a_is_move_at ?l_is_move_at ?c_is_move_at ?k_is_move_at ?a_outcomes ?l_outcomes ?c_outcomes ?k_outcomes ?a_moves ?l_moves ?c_moves ?k_moves ?a__law_no_state ?l__law_no_state ?c__law_no_state ?k__law_no_state ?a__law_refused ?l__law_refused ?c__law_refused ?k__law_refused ?a_lies_within ?l_lies_within ?c_lies_within ?k_lies_within ?a_is_done ?l_is_done ?c_is_done ?k_is_done ?a__law_done ?l__law_done ?c__law_done ?k__law_done ?a__law_outcomes ?l__law_outcomes ?c__law_outcomes ?k__law_outcomes ?a_law ?l_law ?c_law ?k_law
    (case g_BadRighting => k_is)
    (case s_BadRighting => k_is)
    (case t_BadRighting => k_is)
    (case e_BadRighting => k_exc)
    (case k_BadRighting => k_is)
    (case d_BadRighting => k_is)
    (case ct_BadRighting_BadRighting => k_is)
    (case v_DEEPEST => k_is)
    (case v_MOST_FILES => k_is)
    (case v_MOST_GAUGES => k_is)
    (case n_abs => k_is)
    (case n_all => k_is)
    (case n_bool => k_is)
    (case n_enumerate => k_is)
    (case n_int => k_is)
    (case n_isinstance => k_is)
    (case n_len => k_is)
    (case n_list => k_is)
    (case n_min => k_is)
    (case n_range => k_is)
    (case n_str => k_is)
    (case n_tuple => k_is)
    (case a__law_pool => k_is)
    (case l__law_pool => k_is)
    (case c__law_pool => k_is)
    (case k__law_pool => k_is)
    (case a__law_pair => k_is)
    (case l__law_pair => k_is)
    (case c__law_pair => k_is)
    (case k__law_pair => k_is)
    (case a__law_at => k_is)
    (case l__law_at => k_is)
    (case c__law_at => k_is)
    (case k__law_at => k_is)
    (case a__law_righting => k_is)
    (case l__law_righting => k_is)
    (case c__law_righting => k_is)
    (case k__law_righting => k_is)
    (case a__law_states => k_is)
    (case l__law_states => k_is)
    (case c__law_states => k_is)
    (case k__law_states => k_is)
    (case a__law_bad_subjects => k_is)
    (case l__law_bad_subjects => k_is)
    (case c__law_bad_subjects => k_is)
    (case k__law_bad_subjects => k_is)
    (case a_is_tuple_of => k_is)
    (case l_is_tuple_of => k_is)
    (case c_is_tuple_of => k_is)
    (case k_is_tuple_of => k_is)
    (case a_is_whole => k_is)
    (case l_is_whole => k_is)
    (case c_is_whole => k_is)
    (case k_is_whole => k_is)
    (case a_is_whole_in => k_is)
    (case l_is_whole_in => k_is)
    (case c_is_whole_in => k_is)
    (case k_is_whole_in => k_is)
    (case a_is_state => k_is)
    (case l_is_state => k_is)
    (case c_is_state => k_is)
    (case k_is_state => k_is)
    (case a_is_rising => k_is)
    (case l_is_rising => k_is)
    (case c_is_rising => k_is)
    (case k_is_rising => k_is)
    (case a_is_file => k_is)
    (case l_is_file => k_is)
    (case c_is_file => k_is)
    (case k_is_file => k_is)
    (case a_check_righting => k_is)
    (case l_check_righting => k_is)
    (case c_check_righting => k_is)
    (case k_check_righting => k_is)
    (case a__law_moves => k_is)
    (case l__law_moves => k_is)
    (case c__law_moves => k_is)
    (case k__law_moves => k_is)
    (case a__law_same => k_is)
    (case l__law_same => k_is)
    (case c__law_same => k_is)
    (case k__law_same => k_is)
    (case a_check_state => k_is)
    (case l_check_state => k_is)
    (case c_check_state => k_is)
    (case k_check_state => k_is)
    (case a_outcomes_at => k_is)
    (case l_outcomes_at => k_is)
    (case c_outcomes_at => k_is)
    (case k_outcomes_at => k_is)
    (case a_moves_at => k_is)
    (case l_moves_at => k_is)
    (case c_moves_at => k_is)
    (case k_moves_at => k_is)
    (case a_is_move_at => k_is)
    (case l_is_move_at => k_is)
    (case c_is_move_at => k_is)
    (case k_is_move_at => k_is)
    (case a_outcomes => k_is)
    (case l_outcomes => k_is)
    (case c_outcomes => k_is)
    (case k_outcomes => k_is)
    (case a_moves => k_is)
    (case l_moves => k_is)
    (case c_moves => k_is)
    (case k_moves => k_is)
    (case a__law_no_state => k_is)
    (case l__law_no_state => k_is)
    (case c__law_no_state => k_is)
    (case k__law_no_state => k_is)
    (case a__law_refused => k_is)
    (case l__law_refused => k_is)
    (case c__law_refused => k_is)
    (case k__law_refused => k_is)
    (case a_lies_within => k_is)
    (case l_lies_within => k_is)
    (case c_lies_within => k_is)
    (case k_lies_within => k_is)
    (case a_is_done => k_is)
    (case l_is_done => k_is)
    (case c_is_done => k_is)
    (case k_is_done => k_is)
    (case a__law_done => k_is)
    (case l__law_done => k_is)
    (case c__law_done => k_is)
    (case k__law_done => k_is)
    (case a__law_outcomes => k_is)
    (case l__law_outcomes => k_is)
    (case c__law_outcomes => k_is)
    (case k__law_outcomes => k_is)
    (case a_law => k_is)
    (case l_law => k_is)
    (case c_law => k_is)
    (case k_law => k_is)

