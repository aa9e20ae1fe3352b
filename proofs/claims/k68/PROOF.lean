import PyProof.Rows.All
import Wide.All
import OpenK.AllK
import Wide.FinOn
import PyProof.EqAt
import PyProof.EqKinds
import PyProof.TupleCall
import HandS.ForMost
import HandS.ForExc
import HandS.CallSlots
import HandS.Walk
import HandS.Zip
import HandS.IsInst
import HandS.Deep
import HandS.TupAny
import HandS.TupMul
import HandS.Conv
import HandS.SortInts
import HandS.Wide
import PyProof.SeqIndex
import PyProof.P3In
import HandS.StrMore
import HandS.Rev
import HandS.Style
import HandS.WordsExc
import HandS.TryOnly
import HandS.ExcIs
import HandS.Small
import HandS.Flow
import KE.GoesEnum
import HandS.More
import HandS.Gcd
import HandS.Codes
import HandS.DictComp
import PySem.Challenge.RW_typefoundry_k68_task_judge
set_option Elab.async false
set_option linter.all false
set_option maxRecDepth 100000
set_option maxHeartbeats 4000000
namespace PL
open PySem PySem.Spec PyProof.Rows L2

/-! ### plain values -/
inductive D where
  | non | bl (b : Bool) | int (i : Int) | str (x : Str) | tup (xs : List D) | lst (xs : List D) | dic (t : Bool) (kvs : List (D × D)) | scr (ns : List Int) | ktp (xs : List D)
  deriving Inhabited
/-- what a name holds: a value that never changes; an object of one's own; (of an expression alone) the own object of a slot -/
inductive S where
  | v (d : D) | o (d : D) | b (i : Nat)
abbrev Rho := List (Option S)
inductive Out (α : Type) where
  | ok (a : α) | exc (c : Str) (ρ : Rho) | stuck
def Out.bind {α β : Type} : Out α → (α → Out β) → Out β
  | .ok a, f => f a
  | .exc c ρ, _ => .exc c ρ
  | .stuck, _ => .stuck
instance : Monad Out where
  pure := .ok
  bind := Out.bind
@[simp] theorem bind_ok {α β : Type} (a : α) (f : α → Out β) : (Out.ok a >>= f) = f a := (rfl)
@[simp] theorem bind_exc {α β : Type} (c : Str) (ρ : Rho) (f : α → Out β) : (Out.exc c ρ >>= f) = .exc c ρ := (rfl)
@[simp] theorem bind_stuck {α β : Type} (f : α → Out β) : (Out.stuck >>= f) = .stuck := (rfl)
abbrev Ex := Rho → Out (S × Rho)

def keyD : D → Option Key
  | .int i => some (.inl i)
  | .str x => some (.inr x)
  | _ => none
def keysD : List D → Option (List Key)
  | [] => some []
  | d :: ds => (keyD d).bind fun k => (keysD ds).map (k :: ·)

/-! ### how a heap bears a value -/
/-- a list that never changes -/
def FzL (K : PySem.W.Frag) (H : Hp) (a : Addr) (xs : List V) : Prop := ∃ o, H a = some (.frz o (.lst xs))
theorem FzL.seq {K : PySem.W.Frag} {H : Hp} {a : Addr} {xs : List V} (h : FzL K H a xs) : SqL K H a xs := .inl (.inr h)
/-- a tuple that was made -/
def TpT (K : PySem.W.Frag) (H : Hp) (a : Addr) (xs : List V) : Prop := H a = some (.tup xs)
theorem TpT.of {K : PySem.W.Frag} {H : Hp} {a : Addr} {xs : List V} (h : H a = some (.tup xs)) : TpT K H a xs := h
theorem TpT.seq {K : PySem.W.Frag} {H : Hp} {a : Addr} {xs : List V} (h : TpT K H a xs) : SqT K H a xs := .inl (.inl h)
/-- a tuple of the written part (without a dict) -/
def KtT (K : PySem.W.Frag) (a : Addr) (xs : List V) : Prop :=
  ∃ (o : Obj) (its : Array Value) (n : Nat), K.lookup a = some o ∧ o.dict = none ∧ o.cls = .type "tuple" ∧ o.data = .seq its n ∧ its.size ≤ sizeLine ∧ Vals xs its.toList
theorem KtT.seq {K : PySem.W.Frag} {H : Hp} {a : Addr} {xs : List V} (h : KtT K a xs) : SqT K H a xs := by
  obtain ⟨o, its, n, h1, _, h2⟩ := h
  exact .inr ⟨o, its, n, h1, h2⟩
/-- the script's own list -/
def ScrL (K : PySem.W.Frag) (H : Hp) (a : Addr) (xs : List V) : Prop :=
  (∃ o, H a = some (.frz o (.lst xs))) ∨
    ∃ (o : Obj) (its : Array Value) (n : Nat), K.lookup a = some o ∧ o.cls = .type "list" ∧ o.dict = none ∧ o.data = .seq its n ∧ its.size ≤ sizeLine ∧ Vals xs its.toList
theorem ScrL.seq {K : PySem.W.Frag} {H : Hp} {a : Addr} {xs : List V} (h : ScrL K H a xs) : SqL K H a xs := by
  rcases h with h | h
  · exact .inl (.inr h)
  · exact .inr h
mutual
def Imm (K : PySem.W.Frag) (H : Hp) : D → V → Prop
  | .non, x => x = .non
  | .bl b, x => x = .bl b
  | .int i, x => x = .int i
  | .str z, x => x = .str z
  | .tup ds, x => ∃ a vs, x = .ref a ∧ TpT K H a vs ∧ ImmL K H ds vs
  | .lst ds, x => ∃ a vs, x = .ref a ∧ FzL K H a vs ∧ ImmL K H ds vs
  | .dic false kvs, x => ∃ a o kws, x = .ref a ∧ H a = some (.frz o (.dK kws)) ∧ ImmK K H kvs kws
  | .dic true kvs, x => ∃ a o kws, x = .ref a ∧ H a = some (.frz o (.dT kws)) ∧ ImmT K H kvs kws
  | .scr ns, x => ∃ a, x = .ref a ∧ ScrL K H a (ns.map V.int)
  | .ktp ds, x => ∃ a vs, x = .ref a ∧ KtT K a vs ∧ ImmL K H ds vs
def ImmL (K : PySem.W.Frag) (H : Hp) : List D → List V → Prop
  | [], vs => vs = []
  | d :: ds, vs => ∃ v r, vs = v :: r ∧ Imm K H d v ∧ ImmL K H ds r
def ImmK (K : PySem.W.Frag) (H : Hp) : List (D × D) → List (Key × V) → Prop
  | [], vs => vs = []
  | (k, d) :: ds, vs => ∃ kk v r, vs = (kk, v) :: r ∧ keyD k = some kk ∧ Imm K H d v ∧ ImmK K H ds r
def ImmT (K : PySem.W.Frag) (H : Hp) : List (D × D) → List (List Key × V) → Prop
  | [], vs => vs = []
  | (.tup k, d) :: ds, vs => ∃ kk v r, vs = (kk, v) :: r ∧ keysD k = some kk ∧ Imm K H d v ∧ ImmT K H ds r
  | _ :: _, _ => False
end
/-- things that never change stay -/
def Ext (H H' : Hp) : Prop := ∀ a o, H a = some o → (∀ xs, o = .tup xs → H' a = some o) ∧ ∀ ob u, o = .frz ob u → H' a = some o
theorem Ext.refl (H : Hp) : Ext H H := fun _ _ h => ⟨fun _ _ => h, fun _ _ _ => h⟩
theorem Ext.trans {H H1 H2 : Hp} (a : Ext H H1) (b : Ext H1 H2) : Ext H H2 := fun c o h =>
  ⟨fun xs e => (b c o ((a c o h).1 xs e)).1 xs e, fun ob u e => (b c o ((a c o h).2 ob u e)).2 ob u e⟩
theorem Ext.tup {H H' : Hp} (e : Ext H H') {a : Addr} {xs : List V} (h : H a = some (.tup xs)) : H' a = some (.tup xs) := (e a _ h).1 xs rfl
theorem Ext.frz {H H' : Hp} (e : Ext H H') {a : Addr} {o : Obj} {u : HO} (h : H a = some (.frz o u)) : H' a = some (.frz o u) := (e a _ h).2 o u rfl
theorem Ext.of_same {H H' : Hp} (e : Same H H') : Ext H H' := fun a o h => ⟨fun _ _ => e a o h, fun _ _ _ => e a o h⟩
theorem Ext.sqT {K : PySem.W.Frag} {H H' : Hp} (e : Ext H H') {a : Addr} {xs : List V} (h : TpT K H a xs) : TpT K H' a xs := e.tup h
theorem Ext.fzL {K : PySem.W.Frag} {H H' : Hp} (e : Ext H H') {a : Addr} {xs : List V} (h : FzL K H a xs) : FzL K H' a xs := by
  obtain ⟨o, h⟩ := h
  exact ⟨o, e.frz h⟩
theorem Ext.scrL {K : PySem.W.Frag} {H H' : Hp} (e : Ext H H') {a : Addr} {xs : List V} (h : ScrL K H a xs) : ScrL K H' a xs := by
  rcases h with ⟨o, h⟩ | h
  · exact .inl ⟨o, e.frz h⟩
  · exact .inr h
mutual
theorem Imm.ext {K : PySem.W.Frag} {H H' : Hp} (e : Ext H H') : ∀ (d : D) (x : V), Imm K H d x → Imm K H' d x
  | .non, _, h => h
  | .bl _, _, h => h
  | .int _, _, h => h
  | .str _, _, h => h
  | .tup ds, _, ⟨a, vs, e1, h1, h2⟩ => ⟨a, vs, e1, e.sqT h1, ImmL.ext e ds vs h2⟩
  | .lst ds, _, ⟨a, vs, e1, h1, h2⟩ => ⟨a, vs, e1, e.fzL h1, ImmL.ext e ds vs h2⟩
  | .dic false kvs, _, ⟨a, o, kws, e1, h1, h2⟩ => ⟨a, o, kws, e1, e.frz h1, ImmK.ext e kvs kws h2⟩
  | .dic true kvs, _, ⟨a, o, kws, e1, h1, h2⟩ => ⟨a, o, kws, e1, e.frz h1, ImmT.ext e kvs kws h2⟩
  | .scr ns, _, ⟨a, e1, h⟩ => ⟨a, e1, e.scrL h⟩
  | .ktp ds, _, ⟨a, vs, e1, h1, h2⟩ => ⟨a, vs, e1, h1, ImmL.ext e ds vs h2⟩
theorem ImmL.ext {K : PySem.W.Frag} {H H' : Hp} (e : Ext H H') : ∀ (ds : List D) (vs : List V), ImmL K H ds vs → ImmL K H' ds vs
  | [], _, h => h
  | d :: ds, _, ⟨v, r, e1, h1, h2⟩ => ⟨v, r, e1, Imm.ext e d v h1, ImmL.ext e ds r h2⟩
theorem ImmK.ext {K : PySem.W.Frag} {H H' : Hp} (e : Ext H H') : ∀ (ds : List (D × D)) (vs : List (Key × V)), ImmK K H ds vs → ImmK K H' ds vs
  | [], _, h => h
  | (_, d) :: ds, _, ⟨kk, v, r, e1, h0, h1, h2⟩ => ⟨kk, v, r, e1, h0, Imm.ext e d v h1, ImmK.ext e ds r h2⟩
theorem ImmT.ext {K : PySem.W.Frag} {H H' : Hp} (e : Ext H H') : ∀ (ds : List (D × D)) (vs : List (List Key × V)), ImmT K H ds vs → ImmT K H' ds vs
  | [], _, h => h
  | (.tup _, d) :: ds, _, ⟨kk, v, r, e1, h0, h1, h2⟩ => ⟨kk, v, r, e1, h0, Imm.ext e d v h1, ImmT.ext e ds r h2⟩
  | (.non, _) :: _, _, h => h
  | (.bl _, _) :: _, _, h => h
  | (.int _, _) :: _, _, h => h
  | (.str _, _) :: _, _, h => h
  | (.lst _, _) :: _, _, h => h
  | (.dic _ _, _) :: _, _, h => h
  | (.scr _, _) :: _, _, h => h
  | (.ktp _, _) :: _, _, h => h
end
theorem ImmL.len {K : PySem.W.Frag} {H : Hp} : ∀ {ds : List D} {vs : List V}, ImmL K H ds vs → vs.length = ds.length
  | [], _, h => by cases (show _ = _ from h); rfl
  | d :: ds, _, ⟨v, r, e1, h1, h2⟩ => by rw [e1, List.length_cons, List.length_cons, ImmL.len h2]
theorem ImmL.get {K : PySem.W.Frag} {H : Hp} : ∀ {ds : List D} {vs : List V} {i : Nat} {x : V}, ImmL K H ds vs → vs[i]? = some x → ∃ d, ds[i]? = some d ∧ Imm K H d x
  | [], _, _, _, h, e => by cases (show _ = _ from h); simp at e
  | d :: ds, _, 0, x, ⟨v, r, e1, h1, h2⟩, e => by subst e1; simp at e; subst e; exact ⟨d, rfl, h1⟩
  | d :: ds, _, i + 1, x, ⟨v, r, e1, h1, h2⟩, e => by
    subst e1
    obtain ⟨d', h3, h4⟩ := ImmL.get (i := i) (x := x) h2 (by simpa using e)
    exact ⟨d', by simpa using h3, h4⟩
theorem ImmL.get' {K : PySem.W.Frag} {H : Hp} : ∀ {ds : List D} {vs : List V} {i : Nat} {d : D}, ImmL K H ds vs → ds[i]? = some d → ∃ x, vs[i]? = some x ∧ Imm K H d x
  | [], _, _, _, h, e => by simp at e
  | d :: ds, _, 0, x, ⟨v, r, e1, h1, h2⟩, e => by subst e1; simp at e; subst e; exact ⟨v, rfl, h1⟩
  | d :: ds, _, i + 1, x, ⟨v, r, e1, h1, h2⟩, e => by
    subst e1
    obtain ⟨d', h3, h4⟩ := ImmL.get' (i := i) (d := x) h2 (by simpa using e)
    exact ⟨d', by simpa using h3, h4⟩
theorem ImmL.append {K : PySem.W.Frag} {H : Hp} : ∀ {ds es : List D} {vs ws : List V}, ImmL K H ds vs → ImmL K H es ws → ImmL K H (ds ++ es) (vs ++ ws)
  | [], _, _, _, h, h' => by cases (show _ = _ from h); exact h'
  | d :: ds, _, _, _, ⟨v, r, e1, h1, h2⟩, h' => by subst e1; exact ⟨v, _, rfl, h1, ImmL.append h2 h'⟩
theorem ImmL.snoc {K : PySem.W.Frag} {H : Hp} {ds : List D} {vs : List V} {d : D} {v : V} (h : ImmL K H ds vs) (h' : Imm K H d v) : ImmL K H (ds ++ [d]) (vs ++ [v]) := h.append ⟨v, [], rfl, h', rfl⟩
theorem ImmL.drop {K : PySem.W.Frag} {H : Hp} : ∀ {ds : List D} {vs : List V} (n : Nat), ImmL K H ds vs → ImmL K H (ds.drop n) (vs.drop n)
  | _, _, 0, h => h
  | [], _, n + 1, h => by cases (show _ = _ from h); rfl
  | d :: ds, _, n + 1, ⟨v, r, e1, h1, h2⟩ => by subst e1; exact ImmL.drop n h2
theorem ImmL.take {K : PySem.W.Frag} {H : Hp} : ∀ {ds : List D} {vs : List V} (n : Nat), ImmL K H ds vs → ImmL K H (ds.take n) (vs.take n)
  | _, _, 0, h => rfl
  | [], _, n + 1, h => by cases (show _ = _ from h); rfl
  | d :: ds, _, n + 1, ⟨v, r, e1, h1, h2⟩ => by subst e1; exact ⟨v, _, rfl, h1, ImmL.take n h2⟩
theorem ImmL.set {K : PySem.W.Frag} {H : Hp} : ∀ {ds : List D} {vs : List V} (n : Nat) {d : D} {v : V}, ImmL K H ds vs → Imm K H d v → ImmL K H (ds.set n d) (vs.set n v)
  | [], _, n, _, _, h, _ => by cases (show _ = _ from h); rfl
  | d :: ds, _, 0, _, _, ⟨v, r, e1, h1, h2⟩, h' => by subst e1; exact ⟨_, _, rfl, h', h2⟩
  | d :: ds, _, n + 1, _, _, ⟨v, r, e1, h1, h2⟩, h' => by subst e1; exact ⟨v, _, rfl, h1, ImmL.set n h2 h'⟩
theorem ImmL.erase {K : PySem.W.Frag} {H : Hp} : ∀ {ds : List D} {vs : List V} (n : Nat), ImmL K H ds vs → ImmL K H (ds.eraseIdx n) (vs.eraseIdx n)
  | [], _, n, h => by cases (show _ = _ from h); rfl
  | d :: ds, _, 0, ⟨v, r, e1, h1, h2⟩ => by subst e1; exact h2
  | d :: ds, _, n + 1, ⟨v, r, e1, h1, h2⟩ => by subst e1; exact ⟨v, _, rfl, h1, ImmL.erase n h2⟩
theorem ImmL.reverse {K : PySem.W.Frag} {H : Hp} : ∀ {ds : List D} {vs : List V}, ImmL K H ds vs → ImmL K H ds.reverse vs.reverse
  | [], _, h => by cases (show _ = _ from h); rfl
  | d :: ds, _, ⟨v, r, e1, h1, h2⟩ => by subst e1; rw [List.reverse_cons, List.reverse_cons]; exact (ImmL.reverse h2).snoc h1
theorem ImmL.none_iff {K : PySem.W.Frag} {H : Hp} {ds : List D} {vs : List V} (h : ImmL K H ds vs) : vs = [] ↔ ds = [] := by
  have := h.len
  constructor
  · intro e; subst e; exact List.length_eq_zero_iff.mp this.symm
  · intro e; subst e; exact List.length_eq_zero_iff.mp this

/-- an own object at a -/
def OwnAt (K : PySem.W.Frag) (H : Hp) (a : Addr) : D → Prop
  | .lst ds => ∃ vs, H a = some (.lst vs) ∧ ImmL K H ds vs
  | .dic false kvs => ∃ kws, H a = some (.dK kws) ∧ ImmK K H kvs kws
  | .dic true kvs => ∃ kws, H a = some (.dT kws) ∧ ImmT K H kvs kws
  | _ => False
theorem OwnAt.some {K : PySem.W.Frag} {H : Hp} {a : Addr} : ∀ {d : D}, OwnAt K H a d → ∃ u, H a = some u ∧ Mut (some u)
  | .lst ds, ⟨vs, h, _⟩ => ⟨_, h, True.intro⟩
  | .dic false kvs, ⟨_, h, _⟩ => ⟨_, h, True.intro⟩
  | .dic true kvs, ⟨_, h, _⟩ => ⟨_, h, True.intro⟩
/-- what can be read as d -/
def Rd (K : PySem.W.Frag) (H : Hp) (d : D) (x : V) : Prop := Imm K H d x ∨ ∃ a, x = .ref a ∧ OwnAt K H a d
theorem Rd.lst {K : PySem.W.Frag} {H : Hp} {ds : List D} {x : V} (h : Rd K H (.lst ds) x) : ∃ a vs, x = .ref a ∧ SqL K H a vs ∧ ImmL K H ds vs := by
  rcases h with ⟨a, vs, e, h1, h2⟩ | ⟨a, e, vs, h1, h2⟩
  · exact ⟨a, vs, e, h1.seq, h2⟩
  · exact ⟨a, vs, e, SqL.of h1, h2⟩
theorem Rd.tup {K : PySem.W.Frag} {H : Hp} {ds : List D} {x : V} (h : Rd K H (.tup ds) x) : ∃ a vs, x = .ref a ∧ TpT K H a vs ∧ ImmL K H ds vs := by
  rcases h with h | ⟨a, e, h⟩
  · exact h
  · exact h.elim
theorem Rd.int {K : PySem.W.Frag} {H : Hp} {i : Int} {x : V} (h : Rd K H (.int i) x) : x = .int i := by
  rcases h with h | ⟨a, e, h⟩
  · exact h
  · exact h.elim
theorem Rd.str {K : PySem.W.Frag} {H : Hp} {i : Str} {x : V} (h : Rd K H (.str i) x) : x = .str i := by
  rcases h with h | ⟨a, e, h⟩
  · exact h
  · exact h.elim
theorem Rd.bl {K : PySem.W.Frag} {H : Hp} {i : Bool} {x : V} (h : Rd K H (.bl i) x) : x = .bl i := by
  rcases h with h | ⟨a, e, h⟩
  · exact h
  · exact h.elim
theorem Rd.non {K : PySem.W.Frag} {H : Hp} {x : V} (h : Rd K H .non x) : x = .non := by
  rcases h with h | ⟨a, e, h⟩
  · exact h
  · exact h.elim

theorem Rd.scr {K : PySem.W.Frag} {H : Hp} {ns : List Int} {x : V} (h : Rd K H (.scr ns) x) : ∃ a, x = .ref a ∧ SqL K H a (ns.map V.int) := by
  rcases h with ⟨a, e, h⟩ | ⟨a, e, h⟩
  · exact ⟨a, e, h.seq⟩
  · exact h.elim
theorem Rd.dic {K : PySem.W.Frag} {H : Hp} {t : Bool} {kvs : List (D × D)} {x : V} (h : Rd K H (.dic t kvs) x) : ∃ a, x = .ref a := by
  rcases h with h | ⟨a, e, _⟩
  · cases t with
    | false => obtain ⟨a, _, _, e, _⟩ := h; exact ⟨a, e⟩
    | true => obtain ⟨a, _, _, e, _⟩ := h; exact ⟨a, e⟩
  · exact ⟨a, e⟩
theorem Rd.dicK {K : PySem.W.Frag} {H : Hp} {kvs : List (D × D)} {x : V} (h : Rd K H (.dic false kvs) x) : ∃ a kws, x = .ref a ∧ L2.Rd H a (.dK kws) ∧ ImmK K H kvs kws := by
  rcases h with ⟨a, o, kws, e, h1, h2⟩ | ⟨a, e, kws, h1, h2⟩
  · exact ⟨a, kws, e, .inr ⟨o, h1⟩, h2⟩
  · exact ⟨a, kws, e, .inl h1, h2⟩
theorem Rd.dicT {K : PySem.W.Frag} {H : Hp} {kvs : List (D × D)} {x : V} (h : Rd K H (.dic true kvs) x) : ∃ a kws, x = .ref a ∧ L2.Rd H a (.dT kws) ∧ ImmT K H kvs kws := by
  rcases h with ⟨a, o, kws, e, h1, h2⟩ | ⟨a, e, kws, h1, h2⟩
  · exact ⟨a, kws, e, .inr ⟨o, h1⟩, h2⟩
  · exact ⟨a, kws, e, .inl h1, h2⟩
theorem Rd.ktp {K : PySem.W.Frag} {H : Hp} {ds : List D} {x : V} (h : Rd K H (.ktp ds) x) : ∃ a vs, x = .ref a ∧ KtT K a vs ∧ ImmL K H ds vs := by
  rcases h with h | ⟨a, e, h⟩
  · exact h
  · exact h.elim
/-- a list that is tracked, or locked -/
theorem Rd.lstR {K : PySem.W.Frag} {H : Hp} {ds : List D} {x : V} (h : Rd K H (.lst ds) x) : ∃ a vs, x = .ref a ∧ L2.Rd H a (.lst vs) ∧ ImmL K H ds vs := by
  rcases h with ⟨a, vs, e, h1, h2⟩ | ⟨a, e, vs, h1, h2⟩
  · exact ⟨a, vs, e, .inr h1, h2⟩
  · exact ⟨a, vs, e, .inl h1, h2⟩
/-! ### the configuration, the state -/
structure Cf where
  prog : Program
  w : World
  K : PySem.W.Frag
  mg : Str → Option Value
  base : Heap
  N : List Str
  sc : Scope
  fn : Str → Bool
  k : Nat
  H0 : Hp
  io : List (Nat × Addr)
def Cf.ios (g : Cf) : List Nat := g.io.map (·.1)
structure At (g : Cf) (X : Cx) : Prop where
  prog : X.prog = g.prog
  w : X.w = g.w
  K : X.K = g.K
  mg : X.mg = g.mg
  base : X.base = g.base
  N : X.N = g.N
  sc : X.env.scope = g.sc
  fn : ∀ x, g.fn x = true → X.fn x = true
  room : Room g.k X.A
  calm : X.calm = true
def Own (ρ : Rho) (σ : L2.St) (a : Addr) : Prop := ∃ (i : Nat) (d : D), ρ[i]? = some (some (.o d)) ∧ σ[i]? = some (some (.ref a))
structure ER (K : PySem.W.Frag) (g : Cf) (ρ : Rho) (σ : L2.St) (H : Hp) : Prop where
  len : ρ.length = σ.length
  val : ∀ (i : Nat) (d : D), ρ[i]? = some (some (.v d)) → ∃ x, σ[i]? = some (some x) ∧ Imm K H d x
  own : ∀ (i : Nat) (d : D), ρ[i]? = some (some (.o d)) → ∃ a, σ[i]? = some (some (.ref a)) ∧ OwnAt K H a d
  bor : ∀ i j : Nat, ρ[i]? ≠ some (some (.b j))
  sep : ∀ (i j : Nat) (d d' : D) (a : Addr), ρ[i]? = some (some (.o d)) → ρ[j]? = some (some (.o d')) → σ[i]? = some (some (.ref a)) → σ[j]? = some (some (.ref a)) → i = j
  old : ∀ a o, g.H0 a = some o → (∀ p ∈ g.io, p.2 ≠ a) → H a = some o
  new : ∀ (i : Nat) (d : D) (a : Addr), ρ[i]? = some (some (.o d)) → σ[i]? = some (some (.ref a)) → g.H0 a = none ∨ (i, a) ∈ g.io
  io : ∀ p ∈ g.io, σ[p.1]? = some (some (.ref p.2)) ∧ ∃ d, ρ[p.1]? = some (some (.o d))
theorem OwnAt.same {K : PySem.W.Frag} {H H' : Hp} (e : Same H H') {a : Addr} : ∀ {d : D}, OwnAt K H a d → OwnAt K H' a d
  | .lst ds, ⟨vs, h, h2⟩ => ⟨vs, e _ _ h, ImmL.ext (Ext.of_same e) ds vs h2⟩
  | .dic false kvs, ⟨kws, h, h2⟩ => ⟨kws, e _ _ h, ImmK.ext (Ext.of_same e) kvs kws h2⟩
  | .dic true kvs, ⟨kws, h, h2⟩ => ⟨kws, e _ _ h, ImmT.ext (Ext.of_same e) kvs kws h2⟩
theorem OwnAt.ext {K : PySem.W.Frag} {H H' : Hp} (e : Ext H H') {a : Addr} (h' : H' a = H a) : ∀ {d : D}, OwnAt K H a d → OwnAt K H' a d
  | .lst ds, ⟨vs, h, h2⟩ => ⟨vs, h'.trans h, ImmL.ext e ds vs h2⟩
  | .dic false kvs, ⟨kws, h, h2⟩ => ⟨kws, h'.trans h, ImmK.ext e kvs kws h2⟩
  | .dic true kvs, ⟨kws, h, h2⟩ => ⟨kws, h'.trans h, ImmT.ext e kvs kws h2⟩
theorem ER.same {K : PySem.W.Frag} {g : Cf} {ρ : Rho} {σ : L2.St} {H H' : Hp} (R : ER K g ρ σ H) (e : Same H H') : ER K g ρ σ H' where
  len := R.len
  val := fun i d h => let ⟨x, h1, h2⟩ := R.val i d h; ⟨x, h1, Imm.ext (Ext.of_same e) d x h2⟩
  own := fun i d h => let ⟨x, h1, h2⟩ := R.own i d h; ⟨x, h1, h2.same e⟩
  bor := R.bor
  sep := R.sep
  old := fun a o h q => e a o (R.old a o h q)
  new := R.new
  io := R.io
/-- everything but the address a is kept, which is none of the own ones -/
theorem ER.but {K : PySem.W.Frag} {g : Cf} {ρ : Rho} {σ : L2.St} {H H' : Hp} {a : Addr} (R : ER K g ρ σ H) (x : Ext H H') (e : ∀ b o, b ≠ a → H b = some o → H' b = some o) (na : ¬ Own ρ σ a) (h0 : g.H0 a = none) : ER K g ρ σ H' where
  len := R.len
  val := fun i d h => let ⟨y, h1, h2⟩ := R.val i d h; ⟨y, h1, Imm.ext x d y h2⟩
  own := fun i d h => by
    obtain ⟨y, h1, h2⟩ := R.own i d h
    have hy : y ≠ a := fun z => na ⟨i, d, h, z ▸ h1⟩
    obtain ⟨u, hu, _⟩ := h2.some
    exact ⟨y, h1, h2.ext x ((e y u hy hu).trans hu.symm)⟩
  bor := R.bor
  sep := R.sep
  old := fun b o h q => e b o (fun z => by rw [z, h0] at h; cases h) (R.old b o h q)
  new := R.new
  io := R.io
/-- an expression's value -/
def SR (K : PySem.W.Frag) (g : Cf) (ρ : Rho) (σ : L2.St) (H : Hp) : S → V → Prop
  | .v d, x => Imm K H d x
  | .o d, x => ∃ a, x = .ref a ∧ OwnAt K H a d ∧ ¬ Own ρ σ a ∧ g.H0 a = none
  | .b i, x => σ[i]? = some (some x) ∧ ∃ d, ρ[i]? = some (some (.o d))
/-- .. where a new object is locked -/
def NR (K : PySem.W.Frag) (σ : L2.St) (H : Hp) : S → V → Prop
  | .v d, x => Imm K H d x
  | .o d, x => Imm K H d x
  | .b i, x => σ[i]? = some (some x)
def pk (ρ : Rho) : S → Out D
  | .v d => .ok d
  | .o d => .ok d
  | .b i => match ρ[i]? with
    | some (some (.o d)) => .ok d
    | some (some (.v d)) => .ok d
    | _ => .stuck
/-- the value, to be shared from now on -/
def fz (g : List Nat) (s : S) (ρ : Rho) : Out (D × Rho) := match s with
  | .v d => .ok (d, ρ)
  | .o d => .ok (d, ρ)
  | .b i => if i ∈ g then .stuck else match ρ[i]? with
    | some (some (.o d)) => .ok (d, ρ.set i (some (.v d)))
    | some (some (.v d)) => .ok (d, ρ)
    | _ => .stuck
theorem pk_rd {K : PySem.W.Frag} {g : Cf} {ρ' : Rho} {σ : L2.St} {H H' : Hp} {s : S} {x : V} {d : D} (n : NR K σ H s x) (R : ER K g ρ' σ H') (e : Ext H H') (h : pk ρ' s = .ok d) : Rd K H' d x := by
  cases s with
  | v d' => cases h; exact .inl (Imm.ext e _ _ n)
  | o d' => cases h; exact .inl (Imm.ext e _ _ n)
  | b i =>
    have n1 : σ[i]? = some (some x) := n
    cases hs : ρ'[i]? with
    | none => simp only [pk, hs] at h; cases h
    | some o =>
      cases o with
      | none => simp only [pk, hs] at h; cases h
      | some z =>
        cases z with
        | b j => simp only [pk, hs] at h; cases h
        | o d' =>
          simp only [pk, hs] at h
          cases h
          obtain ⟨a, h1, h2⟩ := R.own i _ hs
          rw [n1] at h1; cases h1
          exact .inr ⟨a, rfl, h2⟩
        | v d' =>
          simp only [pk, hs] at h
          cases h
          obtain ⟨y, h1, h2⟩ := R.val i _ hs
          rw [n1] at h1; cases h1
          exact .inl h2

/-! ### the judgement of an expression -/
/-- what is wanted behind a reckoning -/
def Pst (K : PySem.W.Frag) (g : Cf) (σ : L2.St) (H : Hp) (W : WX) {β : Type} (G : β → Hp → Prop) : Out β → Prop
  | .ok b => ∀ H', Ext H H' → G b H'
  | .exc c ρ' => ∀ cls H', ER K g ρ' σ H' → Ext H H' → g.mg c = some cls → W cls none σ H'
  | .stuck => False
section
variable {K : PySem.W.Frag} {g : Cf} {σ : L2.St} {H H1 : Hp} {W : WX} {α β : Type} {G : β → Hp → Prop}
theorem Pst.ext (e : Ext H H1) : ∀ {r : Out β}, Pst K g σ H W G r → Pst K g σ H1 W G r
  | .ok _, q => fun H' x => q H' (e.trans x)
  | .exc _ _, q => fun cls H' R x m => q cls H' R (e.trans x) m
  | .stuck, q => q
theorem pk_noexc {ρ ρ' : Rho} {s : S} {c : Str} (h : pk ρ s = .exc c ρ') : False := by
  cases s with
  | v d => cases h
  | o d => cases h
  | b i =>
    simp only [pk] at h
    split at h <;> cases h
theorem Pst.pk {ρ : Rho} {s : S} {k : D → Out β} (q : Pst K g σ H W G (PL.pk ρ s >>= k)) : ∃ d, PL.pk ρ s = .ok d ∧ Pst K g σ H W G (k d) := by
  cases h : PL.pk ρ s with
  | stuck => rw [h] at q; exact q.elim
  | exc c ρ' => exact (pk_noexc h).elim
  | ok d => rw [h] at q; exact ⟨d, rfl, q⟩
def liftO : Option α → Out α
  | some a => .ok a
  | none => .stuck
@[simp] theorem liftO_some (a : α) : liftO (some a) = .ok a := (rfl)
@[simp] theorem liftO_none : liftO (none : Option α) = .stuck := (rfl)
theorem Pst.opt {o : Option α} {k : α → Out β} (q : Pst K g σ H W G (liftO o >>= k)) : ∃ a, o = some a ∧ Pst K g σ H W G (k a) := by
  cases o with
  | none => exact q.elim
  | some a => exact ⟨a, rfl, q⟩
end
def tE (K : PySem.W.Frag) (g : Cf) (f : Ex) (W : WX) : TE := fun σ H Q => ∃ ρ, ER K g ρ σ H ∧ Pst K g σ H W (fun p H' => ER K g p.2 σ H' → ∀ x, SR K g p.2 σ H' p.1 x → Q x H') (f ρ)
def EOk (g : Cf) (e : Expr) (f : Ex) : Prop := ∀ (X : Cx) (W : WX), At g X → Takes X W → PE X e (tE X.K g f W)
def tN (K : PySem.W.Frag) (g : Cf) (f : Ex) (W : WX) : TE := fun σ H Q => ∃ ρ, ER K g ρ σ H ∧ Pst K g σ H W (fun p H' => ER K g p.2 σ H' → ∀ x, NR K σ H' p.1 x → Q x H') (f ρ)
theorem PE.imp {X : Cx} {e : Expr} {t t' : TE} (h : PE X e t) (hi : ∀ σ H Q, t' σ H Q → t σ H Q) : PE X e t' := ⟨fun pins s σ H Q I q => h.run pins s σ H Q I (hi σ H Q q)⟩
theorem PT.imp {X : Cx} {e : Expr} {t t' : TT} (h : PT X e t) (hi : ∀ σ H Q, t' σ H Q → t σ H Q) : PT X e t' := ⟨fun pins s σ H Q I q => h.run pins s σ H Q I (hi σ H Q q)⟩
theorem PS.imp {X : Cx} {e : Stmt} {t t' : TS} (h : PS X e t) (hi : ∀ D σ H, t' D σ H → t D σ H) : PS X e t' := ⟨fun pins s σ H D I q => h.run pins s σ H D I (hi D σ H q)⟩
theorem PSs.imp {X : Cx} {e : List Stmt} {t t' : TS} (h : PSs X e t) (hi : ∀ D σ H, t' D σ H → t D σ H) : PSs X e t' := ⟨fun pins s σ H D I q => h.run pins s σ H D I (hi D σ H q)⟩
theorem PA.imp {X : Cx} {e : List Expr} {t t' : TA} (h : PA X e t) (hi : ∀ σ H Q, t' σ H Q → t σ H Q) : PA X e t' := ⟨fun pos pins s σ H Q I q => h.run pos pins s σ H Q I (hi σ H Q q)⟩
theorem PI.imp {X : Cx} {tg e : Expr} {t t' : TI} (h : PI X tg e t) (hi : ∀ σ H Q, t' σ H Q → t σ H Q) : PI X tg e t' := ⟨fun pins s σ H Q I q => h.run pins s σ H Q I (hi σ H Q q)⟩

/-- the lock of an own object that no slot holds -/
theorem lock_tmp {K : PySem.W.Frag} {g : Cf} {ρ : Rho} {σ : L2.St} {H : Hp} {a : Addr} {d : D} (R : ER K g ρ σ H) (o : OwnAt K H a d) (no : ¬ Own ρ σ a) (h0 : g.H0 a = none) :
    ∃ u, H a = some u ∧ Mut (some u) ∧ ∀ od, ER K g ρ σ (upd H a (.frz od u)) ∧ Ext H (upd H a (.frz od u)) ∧ Imm K (upd H a (.frz od u)) d (.ref a) := by
  obtain ⟨u, hu, mu⟩ := o.some
  refine ⟨u, hu, mu, fun od => ?_⟩
  have x : Ext H (upd H a (.frz od u)) := fun b ob hb => by
    by_cases hba : b = a
    · subst hba
      rw [hu] at hb; cases hb
      exact ⟨fun xs e => by subst e; exact mu.elim, fun _ _ e => by subst e; exact mu.elim⟩
    · exact ⟨fun _ _ => by rw [upd_ne hba]; exact hb, fun _ _ _ => by rw [upd_ne hba]; exact hb⟩
  refine ⟨R.but (a := a) x (fun b ob hb hh => by rw [upd_ne hb]; exact hh) no h0, x, ?_⟩
  cases d with
  | lst ds =>
    obtain ⟨vs, h1, h2⟩ := o
    rw [hu] at h1; cases h1
    exact ⟨a, vs, rfl, ⟨od, upd_same⟩, ImmL.ext x ds vs h2⟩
  | dic t kvs =>
    cases t with
    | false =>
      obtain ⟨kws, h1, h2⟩ := o
      rw [hu] at h1; cases h1
      exact ⟨a, od, kws, rfl, upd_same, ImmK.ext x kvs kws h2⟩
    | true =>
      obtain ⟨kws, h1, h2⟩ := o
      rw [hu] at h1; cases h1
      exact ⟨a, od, kws, rfl, upd_same, ImmT.ext x kvs kws h2⟩
  | _ => exact o.elim
/-- an expression, a new object of it locked -/
theorem EOk.n {g : Cf} {e : Expr} {f : Ex} (h : EOk g e f) {X : Cx} {W : WX} (A : At g X) (tk : Takes X W) : PE X e (tN X.K g f W) := by
  refine ⟨fun pins s σ H Q I ⟨ρ, R, q⟩ => ?_⟩
  cases hf : f ρ with
  | stuck => rw [hf] at q; exact q.elim
  | exc c ρ' =>
    rw [hf] at q
    exact (h X W A tk).run pins s σ H Q I ⟨ρ, R, by rw [hf]; exact q⟩
  | ok p =>
    obtain ⟨s', ρ'⟩ := p
    rw [hf] at q
    have q : ∀ H', Ext H H' → ER X.K g ρ' σ H' → ∀ x, NR X.K σ H' s' x → Q x H' := q
    refine thn ((h X W A tk).run pins s σ H (fun x H' => ER X.K g ρ' σ H' ∧ Ext H H' ∧ SR X.K g ρ' σ H' s' x) I ⟨ρ, R, by rw [hf]; exact fun H' b a x c => ⟨a, b, c⟩⟩) fun u s1 ⟨x, H1, I1, r1, R1, e1, sr⟩ => ?_
    cases s' with
    | v d => exact ⟨x, H1, I1, r1, q H1 e1 R1 x sr⟩
    | b i => exact ⟨x, H1, I1, r1, q H1 e1 R1 x sr.1⟩
    | o d =>
      obtain ⟨a, rfl, oa, no, h0⟩ := sr
      obtain ⟨u', hu, mu, F⟩ := lock_tmp R1 oa no h0
      obtain ⟨od, I2⟩ := I1.lock hu mu
      obtain ⟨R2, e2, im⟩ := F od
      exact ⟨_, _, I2, r1, q _ (e1.trans e2) R2 _ im⟩
/-- a reckoning that begins with an expression -/
theorem tN_step {K : PySem.W.Frag} {g : Cf} {σ : L2.St} {H : Hp} {W : WX} {β : Type} {G : β → Hp → Prop} {ρ : Rho} {fa : Ex} {k : S × Rho → Out β} {Q : VK} (R : ER K g ρ σ H) (q : Pst K g σ H W G (fa ρ >>= k))
    (h : ∀ s ρ1 x H1, ER K g ρ1 σ H1 → Ext H H1 → NR K σ H1 s x → Pst K g σ H1 W G (k (s, ρ1)) → Q x H1) : tN K g fa W σ H Q := by
  refine ⟨ρ, R, ?_⟩
  cases ha : fa ρ with
  | stuck => rw [ha] at q; exact q.elim
  | exc c ρ1 => rw [ha] at q; exact q
  | ok p =>
    rw [ha] at q
    exact fun H1 E1 R1 x n => h p.1 p.2 x H1 R1 E1 n (Pst.ext E1 (r := k p) q)
end PL

namespace PL
open PySem PySem.Spec PyProof.Rows L2

section
variable {g : Cf} {e a b c : Expr} {pos : Pos}
/-! ### names, constants -/
def eVar (i : Nat) : Ex := fun ρ => match ρ[i]? with
  | some (some (.v d)) => .ok (.v d, ρ)
  | some (some (.o _)) => .ok (.b i, ρ)
  | _ => .stuck
def eC (d : D) : Ex := fun ρ => .ok (.v d, ρ)
theorem e_var {i : Nat} {x : Str} (hN : g.N[i]? = some x := by rfl) (hv : Vis g.sc x := by first | exact Or.inl rfl | exact Or.inr (Or.inl rfl) | exact Or.inr (Or.inr rfl)) (hd : (x == ("__debug__" : Str)) = false := by decide) (hcd : (x == ("__classdict__" : Str)) = false := by decide) : EOk g (.Name x pos) (eVar i) := fun X W A tk => by
  refine PE.imp (pe_var (i := i) (by rw [A.N]; exact hN) (by unfold Vis; rw [A.sc]; exact hv) hd hcd) fun σ H Q ⟨ρ, R, q⟩ => ?_
  unfold eVar at q
  cases hs : ρ[i]? with
  | none => rw [hs] at q; exact q.elim
  | some o =>
    cases o with
    | none => rw [hs] at q; exact q.elim
    | some s =>
      cases s with
      | v d =>
        rw [hs] at q
        obtain ⟨x, h1, h2⟩ := R.val i d hs
        exact ⟨x, h1, q H (Ext.refl H) R x h2⟩
      | o d =>
        rw [hs] at q
        obtain ⟨x, h1, h2⟩ := R.own i d hs
        exact ⟨_, h1, q H (Ext.refl H) R _ ⟨h1, d, hs⟩⟩
      | b j => exact absurd hs (R.bor i j)
theorem e_c {X : Cx} {W : WX} {d : D} {x : V} (h : PE X e (tC x)) (hi : ∀ H, Imm X.K H d x) : PE X e (tE X.K g (eC d) W) := PE.imp h fun σ H Q ⟨ρ, R, q⟩ => q H (Ext.refl H) R x (hi H)
theorem e_int {i : Int} {j : Nat} : EOk g (.Constant (.int i) j pos) (eC (.int i)) := fun X W A tk => e_c pe_int fun _ => rfl
theorem e_bl {i : Bool} {j : Nat} : EOk g (.Constant (.bool i) j pos) (eC (.bl i)) := fun X W A tk => e_c pe_bl fun _ => rfl
theorem e_str {i : Str} {j : Nat} : EOk g (.Constant (.str i) j pos) (eC (.str i)) := fun X W A tk => e_c pe_str fun _ => rfl
theorem e_non {j : Nat} : EOk g (.Constant .none j pos) (eC .non) := fun X W A tk => e_c pe_non fun _ => rfl
/-- a name of the module -/
def Glo (g : Cf) (x : Str) : Prop := g.sc.names.lookup x = some .globalImplicit
theorem Glo.gl {x : Str} {X : Cx} (h : Glo g x) (A : At g X) : Gl X x := by
  show X.env.scope.names.lookup x = _
  rw [A.sc]; exact h
/-- a constant of the module -/
structure Con (g : Cf) (x : Str) (d : D) : Prop where
  ex : ∃ u v, g.mg x = some u ∧ RelV v u ∧ ∀ H, Imm g.K H d v
theorem e_glob {x : Str} {d : D} (h : Con g x d) (hg : Glo g x := by rfl) (hd : (x == ("__debug__" : Str)) = false := by decide) : EOk g (.Name x pos) (eC d) := fun X W A tk => by
  obtain ⟨u, v, h1, h2, h3⟩ := h.ex
  exact e_c (pe_glob (hg.gl A) (by rw [A.mg]; exact h1) h2 hd) fun H => by rw [A.K]; exact h3 H

/-! ### operators by values -/
/-- a result: an immutable value, or a new object -/
def RS (K : PySem.W.Frag) (H H' : Hp) : S → V → Prop
  | .v d, z => Imm K H' d z
  | .o d, z => ∃ a, z = .ref a ∧ H a = none ∧ OwnAt K H' a d
  | .b _, _ => False
theorem not_own {K : PySem.W.Frag} {ρ : Rho} {σ : L2.St} {H : Hp} {a : Addr} (R : ER K g ρ σ H) (h : H a = none) : ¬ Own ρ σ a := fun ⟨i, d, h1, h2⟩ => by
  obtain ⟨a', h3, h4⟩ := R.own i d h1
  rw [h2] at h3; cases h3
  obtain ⟨u, hu, _⟩ := h4.some
  rw [h] at hu; cases hu
theorem not_old {K : PySem.W.Frag} {ρ : Rho} {σ : L2.St} {H : Hp} {a : Addr} (R : ER K g ρ σ H) (h : H a = none) : g.H0 a = none := by
  cases q : g.H0 a with
  | none => rfl
  | some o =>
    by_cases hp : ∀ p ∈ g.io, p.2 ≠ a
    · rw [R.old a o q hp] at h; cases h
    · exfalso
      apply hp
      intro p hp' e
      obtain ⟨h1, d, h2⟩ := R.io p hp'
      obtain ⟨a', h3, h4⟩ := R.own _ _ h2
      rw [h1] at h3; cases h3
      obtain ⟨u, hu, _⟩ := h4.some
      rw [e, h] at hu; cases hu
theorem RS.sr {K : PySem.W.Frag} {ρ : Rho} {σ : L2.St} {H H' : Hp} {s : S} {z : V} (R : ER K g ρ σ H) (r : RS K H H' s z) : SR K g ρ σ H' s z := by
  cases s with
  | v d => exact r
  | o d => obtain ⟨a, e, h, o⟩ := r; exact ⟨a, e, o, not_own R h, not_old R h⟩
  | b i => exact r.elim
def Op2 (X : Cx) (f : Value → Value → Sem Value) (od : D → D → Option S) : Prop :=
  ∃ r : R2, OpR X f r ∧ ∀ (x y : V) (H : Hp) (Q : VK) (d1 d2 : D) (s : S), Rd X.K H d1 x → Rd X.K H d2 y → od d1 d2 = some s → (∀ z H', Same H H' → RS X.K H H' s z → Q z H') → r x y H Q
def e2 (od : D → D → Option S) (fa fb : Ex) : Ex := fun ρ => fa ρ >>= fun p => fb p.2 >>= fun q => pk q.2 p.1 >>= fun d1 => pk q.2 q.1 >>= fun d2 => liftO (od d1 d2) >>= fun s => .ok (s, q.2)
theorem read2 {X : Cx} {W : WX} {r : R2} {od : D → D → Option S} {fa fb : Ex} {σ : L2.St} {H : Hp} {Q : VK}
    (h : ∀ (x y : V) (H : Hp) (Q : VK) (d1 d2 : D) (s : S), Rd X.K H d1 x → Rd X.K H d2 y → od d1 d2 = some s → (∀ z H', Same H H' → RS X.K H H' s z → Q z H') → r x y H Q)
    (t : tE X.K g (e2 od fa fb) W σ H Q) : tN X.K g fa W σ H fun x H1 => tN X.K g fb W σ H1 fun y H2 => r x y H2 Q := by
  obtain ⟨ρ, R, q⟩ := t
  refine tN_step R q fun s1 ρ1 x H1 R1 E1 n1 q1 => tN_step R1 q1 fun s2 ρ2 y H2 R2 E2 n2 q2 => ?_
  obtain ⟨d1, h1, q3⟩ := q2.pk
  obtain ⟨d2, h2, q4⟩ := q3.pk
  obtain ⟨s, ho, q5⟩ := q4.opt
  exact h x y H2 Q d1 d2 s (pk_rd n1 R2 E2 h1) (pk_rd n2 R2 (Ext.refl _) h2) ho fun z H' sm rs => q5 H' (Ext.of_same sm) (R2.same sm) z (rs.sr R2)
theorem e_bin {op : Operator} {od : D → D → Option S} {fa fb : Ex} (ho : ∀ X, At g X → Op2 X (binaryOp op) od) (ha : EOk g a fa) (hb : EOk g b fb) : EOk g (.BinOp a op b pos) (e2 od fa fb) := fun X W A tk => by
  obtain ⟨r, hr, h⟩ := ho X A
  exact PE.imp (pe_op hr (ha.n A tk) (hb.n A tk)) fun σ H Q t => read2 h t
end
end PL

namespace PL
open PySem PySem.Spec PyProof.Rows L2
section
variable {g : Cf} {e a b c : Expr} {es rest : List Expr} {pos : Pos}
/-! ### one value -/
def Un1 (X : Cx) (r : V → Hp → VK → Prop) (od : D → Option S) : Prop := ∀ (x : V) (H : Hp) (Q : VK) (d1 : D) (s : S), Rd X.K H d1 x → od d1 = some s → (∀ z H', Same H H' → RS X.K H H' s z → Q z H') → r x H Q
def e1 (od : D → Option S) (fa : Ex) : Ex := fun ρ => fa ρ >>= fun p => pk p.2 p.1 >>= fun d1 => liftO (od d1) >>= fun s => .ok (s, p.2)
theorem read1 {X : Cx} {W : WX} {r : V → Hp → VK → Prop} {od : D → Option S} {fa : Ex} {σ : L2.St} {H : Hp} {Q : VK} (h : Un1 X r od)
    (t : tE X.K g (e1 od fa) W σ H Q) : tN X.K g fa W σ H fun x H1 => r x H1 Q := by
  obtain ⟨ρ, R, q⟩ := t
  refine tN_step R q fun s1 ρ1 x H1 R1 E1 n1 q1 => ?_
  obtain ⟨d1, h1, q3⟩ := q1.pk
  obtain ⟨s, ho, q5⟩ := q3.opt
  exact h x H1 Q d1 s (pk_rd n1 R1 (Ext.refl _) h1) ho fun z H' sm rs => q5 H' (Ext.of_same sm) (R1.same sm) z (rs.sr R1)
theorem e_un {op : UnaryOp} {od : D → Option S} {fa : Ex} (ho : ∀ X, At g X → ∃ r, UnR X (unaryOp op) r ∧ Un1 X r od) (ha : EOk g a fa) : EOk g (.UnaryOp op a pos) (e1 od fa) := fun X W A tk => by
  obtain ⟨r, hr, h⟩ := ho X A
  exact PE.imp (pe_un hr (ha.n A tk)) fun σ H Q t => read1 h t

/-! ### tests -/
abbrev Tx := Rho → Out (Bool × Rho)
def tT (K : PySem.W.Frag) (g : Cf) (f : Tx) (W : WX) : TT := fun σ H Q => ∃ ρ, ER K g ρ σ H ∧ Pst K g σ H W (fun p H' => ER K g p.2 σ H' → Q p.1 H') (f ρ)
def TOk (g : Cf) (e : Expr) (f : Tx) : Prop := ∀ (X : Cx) (W : WX), At g X → Takes X W → PT X e (tT X.K g f W)
/-- a test's answer as a value -/
def bE (t : Tx) : Ex := fun ρ => t ρ >>= fun p => .ok (.v (.bl p.1), p.2)
theorem tT_step {K : PySem.W.Frag} {σ : L2.St} {H : Hp} {W : WX} {β : Type} {G : β → Hp → Prop} {ρ : Rho} {fa : Tx} {k : Bool × Rho → Out β} {Q : Bool → Hp → Prop} (R : ER K g ρ σ H) (q : Pst K g σ H W G (fa ρ >>= k))
    (h : ∀ s ρ1 H1, ER K g ρ1 σ H1 → Ext H H1 → Pst K g σ H1 W G (k (s, ρ1)) → Q s H1) : tT K g fa W σ H Q := by
  refine ⟨ρ, R, ?_⟩
  cases ha : fa ρ with
  | stuck => rw [ha] at q; exact q.elim
  | exc c ρ1 => rw [ha] at q; exact q
  | ok p =>
    rw [ha] at q
    exact fun H1 E1 R1 => h p.1 p.2 H1 R1 E1 (Pst.ext E1 (r := k p) q)
def dTru : D → Option Bool
  | .non => some false
  | .bl b => some b
  | .int i => some (i != 0)
  | .str x => if x.length ≤ 16777216 then some ((x.length : Int) != 0) else none
  | .tup ds => some (!ds.isEmpty)
  | .lst ds => some (!ds.isEmpty)
  | .dic _ _ => none
  | .scr ns => some (!ns.isEmpty)
  | .ktp ds => some (!ds.isEmpty)
theorem immL_empty {K : PySem.W.Frag} {H : Hp} : ∀ {ds : List D} {vs : List V}, ImmL K H ds vs → (!vs.isEmpty) = !ds.isEmpty
  | [], _, h => by cases (show _ = _ from h); rfl
  | d :: ds, _, ⟨v, r, e1, _⟩ => by subst e1; rfl
theorem tru_of {K : PySem.W.Frag} {H : Hp} {d : D} {x : V} {k : Bool} (r : Rd K H d x) (h : dTru d = some k) : TruV K x H k := by
  cases d with
  | non => cases r.non; cases h; rfl
  | bl b => cases r.bl; cases h; rfl
  | int i => cases r.int; cases h; rfl
  | str z =>
    cases r.str
    simp only [dTru] at h
    split at h
    · rename_i hz
      cases h
      exact ⟨by rw [sizeLine_eq]; exact hz, rfl⟩
    · cases h
  | tup ds =>
    obtain ⟨a, vs, rfl, h1, h2⟩ := r.tup
    cases h
    exact .inr (.inl ⟨vs, h1.seq, (immL_empty h2).symm⟩)
  | lst ds =>
    obtain ⟨a, vs, rfl, h1, h2⟩ := r.lst
    cases h
    exact .inl ⟨vs, h1, (immL_empty h2).symm⟩
  | dic t kvs => cases h
  | ktp ds =>
    obtain ⟨a, vs, rfl, h1, h2⟩ := r.ktp
    cases h
    exact .inr (.inl ⟨vs, h1.seq, (immL_empty h2).symm⟩)
  | scr ns =>
    obtain ⟨a, rfl, h1⟩ := r.scr
    cases h
    exact .inl ⟨_, h1, by cases ns <;> rfl⟩
def tTru (fa : Ex) : Tx := fun ρ => fa ρ >>= fun p => pk p.2 p.1 >>= fun d => liftO (dTru d) >>= fun b => .ok (b, p.2)
theorem t_tru {fa : Ex} (ha : EOk g a fa) (he : ∀ env whole, isTrue a env whole = (do let v ← whole; standAt a.pos; holding [v] (truthy v)) := by intro _ _; rfl) : TOk g a (tTru fa) := fun X W A tk => by
  refine PT.imp (pt_truth (ha.n A tk) (he _)) fun σ H Q ⟨ρ, R, q⟩ => ?_
  refine tN_step R q fun s1 ρ1 x H1 R1 E1 n1 q1 => ?_
  obtain ⟨d1, h1, q3⟩ := q1.pk
  obtain ⟨k, ho, q5⟩ := q3.opt
  exact ⟨k, tru_of (pk_rd n1 R1 (Ext.refl _) h1) ho, q5 H1 (Ext.refl _) R1⟩
/-- comparisons -/
def OpB (X : Cx) (f : Value → Value → Sem Value) (od : D → D → Option Bool) : Prop :=
  ∃ r : R2, OpR X f r ∧ ∀ (x y : V) (H : Hp) (Q : VK) (d1 d2 : D) (k : Bool), Rd X.K H d1 x → Rd X.K H d2 y → od d1 d2 = some k → Q (.bl k) H → r x y H Q
def t2 (od : D → D → Option Bool) (fa fb : Ex) : Tx := fun ρ => fa ρ >>= fun p => fb p.2 >>= fun q => pk q.2 p.1 >>= fun d1 => pk q.2 q.1 >>= fun d2 => liftO (od d1 d2) >>= fun k => .ok (k, q.2)
theorem readC {X : Cx} {W : WX} {β : Type} {G : β → Hp → Prop} {r : R2} {od : D → D → Option Bool} {fa fb : Ex} {σ : L2.St} {H : Hp} {Q : VK} {ρ : Rho} {k : Bool × Rho → Out β}
    (h : ∀ (x y : V) (H : Hp) (Q : VK) (d1 d2 : D) (k : Bool), Rd X.K H d1 x → Rd X.K H d2 y → od d1 d2 = some k → Q (.bl k) H → r x y H Q)
    (R : ER X.K g ρ σ H) (t : Pst X.K g σ H W G (t2 od fa fb ρ >>= k)) (hk : ∀ b ρ2 H2, ER X.K g ρ2 σ H2 → Ext H H2 → Pst X.K g σ H2 W G (k (b, ρ2)) → Q (.bl b) H2) : tN X.K g fa W σ H fun x H1 => tN X.K g fb W σ H1 fun y H2 => r x y H2 Q := by
  have bb : t2 od fa fb ρ >>= k = (fa ρ >>= fun p => fb p.2 >>= fun q => pk q.2 p.1 >>= fun d1 => pk q.2 q.1 >>= fun d2 => liftO (od d1 d2) >>= fun b => k (b, q.2)) := by
    unfold t2
    cases fa ρ with
    | stuck => rfl
    | exc c ρ1 => rfl
    | ok p =>
      simp only [bind_ok]
      cases fb p.2 with
      | stuck => rfl
      | exc c ρ1 => rfl
      | ok q =>
        simp only [bind_ok]
        cases pk q.2 p.1 with
        | stuck => rfl
        | exc c ρ1 => rfl
        | ok d1 =>
          simp only [bind_ok]
          cases pk q.2 q.1 with
          | stuck => rfl
          | exc c ρ1 => rfl
          | ok d2 =>
            simp only [bind_ok]
            cases od d1 d2 <;> rfl
  rw [bb] at t
  refine tN_step R t fun s1 ρ1 x H1 R1 E1 n1 q1 => tN_step R1 q1 fun s2 ρ2 y H2 R2 E2 n2 q2 => ?_
  obtain ⟨d1, h1, q3⟩ := q2.pk
  obtain ⟨d2, h2, q4⟩ := q3.pk
  obtain ⟨s, ho, q5⟩ := q4.opt
  exact h x y H2 Q d1 d2 s (pk_rd n1 R2 E2 h1) (pk_rd n2 R2 (Ext.refl _) h2) ho (hk s ρ2 H2 R2 (E1.trans E2) q5)
theorem bind_self {α : Type} (r : Out α) : (r >>= fun p => Out.ok p) = r := by cases r <;> rfl
theorem e_cmp {op : CmpOp} {od : D → D → Option Bool} {fa fb : Ex} (ho : ∀ X, At g X → OpB X (compareOp op) od) (ha : EOk g a fa) (hb : EOk g b fb) (hm : behindInMarks op b = false := by first | exact nomark _ | rfl) : EOk g (.Compare a [op] [b] pos) (bE (t2 od fa fb)) := fun X W A tk => by
  obtain ⟨r, hr, h⟩ := ho X A
  exact PE.imp (pe_cmpR hr (ha.n A tk) (hb.n A tk) hm) fun σ H Q ⟨ρ, R, q⟩ => readC h R q fun b ρ2 H2 R2 E2 q => q H2 (Ext.refl _) R2 _ rfl
theorem t_cmp {op : CmpOp} {od : D → D → Option Bool} {fa fb : Ex} (ho : ∀ X, At g X → OpB X (compareOp op) od) (ha : EOk g a fa) (hb : EOk g b fb) (hm : behindInMarks op b = false := by first | exact nomark _ | rfl) : TOk g (.Compare a [op] [b] pos) (t2 od fa fb) := fun X W A tk => by
  obtain ⟨r, hr, h⟩ := ho X A
  refine PT.imp (pt_cmpR hr (ha.n A tk) (hb.n A tk) hm) fun σ H Q ⟨ρ, R, q⟩ => ?_
  refine readC h R (G := fun p H' => ER X.K g p.2 σ H' → Q p.1 H') (k := fun p => .ok p) (by rw [bind_self]; exact q) fun b ρ2 H2 R2 E2 q => ⟨b, rfl, q H2 (Ext.refl _) R2⟩
def tCh (od od' : D → D → Option Bool) (fa fb fc : Ex) : Tx := fun ρ => fa ρ >>= fun p => fb p.2 >>= fun q => pk q.2 p.1 >>= fun d1 => pk q.2 q.1 >>= fun d2 => liftO (od d1 d2) >>= fun k =>
  if k = true then fc q.2 >>= fun r => pk r.2 q.1 >>= fun d2 => pk r.2 r.1 >>= fun d3 => liftO (od' d2 d3) >>= fun k' => .ok (k', r.2) else .ok (false, q.2)
theorem readCh {X : Cx} {W : WX} {r r' : R2} {od od' : D → D → Option Bool} {fa fb fc : Ex} {σ : L2.St} {H : Hp} {Q : VK} {ρ : Rho}
    (h : ∀ (x y : V) (H : Hp) (Q : VK) (d1 d2 : D) (k : Bool), Rd X.K H d1 x → Rd X.K H d2 y → od d1 d2 = some k → Q (.bl k) H → r x y H Q)
    (h' : ∀ (x y : V) (H : Hp) (Q : VK) (d1 d2 : D) (k : Bool), Rd X.K H d1 x → Rd X.K H d2 y → od' d1 d2 = some k → Q (.bl k) H → r' x y H Q)
    (R : ER X.K g ρ σ H) (t : Pst X.K g σ H W (fun p H' => ER X.K g p.2 σ H' → Q (.bl p.1) H') (tCh od od' fa fb fc ρ)) : tChain r r' (tN X.K g fa W) (tN X.K g fb W) (tN X.K g fc W) σ H Q := by
  refine tN_step R t fun s1 ρ1 x H1 R1 E1 n1 q1 => tN_step R1 q1 fun s2 ρ2 y H2 R2 E2 n2 q2 => ?_
  obtain ⟨d1, h1, q3⟩ := q2.pk
  obtain ⟨d2, h2, q4⟩ := q3.pk
  obtain ⟨k, ho, q5⟩ := q4.opt
  refine h x y H2 _ d1 d2 k (pk_rd n1 R2 E2 h1) (pk_rd n2 R2 (Ext.refl _) h2) ho ⟨k, rfl, ?_⟩
  cases k with
  | false => exact iteF (q5 H2 (Ext.refl _) R2)
  | true =>
    refine iteT (tN_step R2 q5 fun s3 ρ3 z H3 R3 E3 n3 q6 => ?_)
    obtain ⟨d2', h2', q7⟩ := q6.pk
    obtain ⟨d3, h3, q8⟩ := q7.pk
    obtain ⟨k', ho', q9⟩ := q8.opt
    exact h' y z H3 Q d2' d3 k' (pk_rd n2 R3 E3 h2') (pk_rd n3 R3 (Ext.refl _) h3) ho' (q9 H3 (Ext.refl _) R3)
theorem e_chain {op op' : CmpOp} {od od' : D → D → Option Bool} {fa fb fc : Ex} (ho : ∀ X, At g X → OpB X (compareOp op) od) (ho' : ∀ X, At g X → OpB X (compareOp op') od') (ha : EOk g a fa) (hb : EOk g b fb) (hc : EOk g c fc)
    (hm : lastMarks [op, op'] [b, c] = false := by with_unfolding_all rfl) : EOk g (.Compare a [op, op'] [b, c] pos) (bE (tCh od od' fa fb fc)) := fun X W A tk => by
  obtain ⟨r, hr, h⟩ := ho X A
  obtain ⟨r', hr', h'⟩ := ho' X A
  refine PE.imp (pe_chain hr hr' (ha.n A tk) (hb.n A tk) (hc.n A tk) hm) fun σ H Q ⟨ρ, R, q⟩ => readCh h h' R ?_
  unfold bE at q
  cases ht : tCh od od' fa fb fc ρ with
  | stuck => rw [ht] at q; exact q
  | exc c ρ1 => rw [ht] at q; exact q
  | ok p => rw [ht] at q; exact fun H' e R' => q H' e R' _ rfl
theorem t_chain {op op' : CmpOp} {od od' : D → D → Option Bool} {fa fb fc : Ex} (ho : ∀ X, At g X → OpB X (compareOp op) od) (ho' : ∀ X, At g X → OpB X (compareOp op') od') (ha : EOk g a fa) (hb : EOk g b fb) (hc : EOk g c fc)
    (hm : lastMarks [op, op'] [b, c] = false := by with_unfolding_all rfl) : TOk g (.Compare a [op, op'] [b, c] pos) (tCh od od' fa fb fc) := fun X W A tk => by
  obtain ⟨r, hr, h⟩ := ho X A
  obtain ⟨r', hr', h'⟩ := ho' X A
  refine PT.imp (pt_chain hr hr' (ha.n A tk) (hb.n A tk) (hc.n A tk) hm) fun σ H Q ⟨ρ, R, q⟩ => readCh h h' R ?_
  cases ht : tCh od od' fa fb fc ρ with
  | stuck => rw [ht] at q; exact q
  | exc c ρ1 => rw [ht] at q; exact q
  | ok p => rw [ht] at q; exact fun H' e R' => ⟨_, rfl, q H' e R'⟩
/-! ### and, or, not, if -/
def WOk (g : Cf) (e : Expr) (f : Tx) : Prop := ∀ (X : Cx) (W : WX), At g X → Takes X W → PW X e (tT X.K g f W)
theorem PW.imp {X : Cx} {e : Expr} {t t' : TT} (h : PW X e t) (hi : ∀ σ H Q, t' σ H Q → t σ H Q) : PW X e t' := ⟨fun wh pins s σ H Q I q => h.run wh pins s σ H Q I (hi σ H Q q)⟩
def tAnd (t u : Tx) : Tx := fun ρ => t ρ >>= fun p => if p.1 = true then u p.2 else .ok (false, p.2)
def tOr (t u : Tx) : Tx := fun ρ => t ρ >>= fun p => if p.1 = true then .ok (true, p.2) else u p.2
def tNot (t : Tx) : Tx := fun ρ => t ρ >>= fun p => .ok (!p.1, p.2)
theorem w_and1 {t : Tx} (h : TOk g a t) : WOk g (.BoolOp .And [a] pos) t := fun X W A tk => pw_and1 (h X W A tk)
theorem w_or1 {t : Tx} (h : TOk g a t) : WOk g (.BoolOp .Or [a] pos) t := fun X W A tk => pw_or1 (h X W A tk)
theorem w_and {t u : Tx} (h : TOk g a t) (h2 : WOk g (.BoolOp .And (b :: rest) pos) u) : WOk g (.BoolOp .And (a :: b :: rest) pos) (tAnd t u) := fun X W A tk => by
  refine PW.imp (pw_and (h X W A tk) (h2 X W A tk)) fun σ H Q ⟨ρ, R, q⟩ => tT_step R q fun k ρ1 H1 R1 E1 q1 => ?_
  cases k with
  | true => exact iteT ⟨ρ1, R1, q1⟩
  | false => exact iteF (q1 H1 (Ext.refl _) R1)
theorem w_or {t u : Tx} (h : TOk g a t) (h2 : WOk g (.BoolOp .Or (b :: rest) pos) u) : WOk g (.BoolOp .Or (a :: b :: rest) pos) (tOr t u) := fun X W A tk => by
  refine PW.imp (pw_or (h X W A tk) (h2 X W A tk)) fun σ H Q ⟨ρ, R, q⟩ => tT_step R q fun k ρ1 H1 R1 E1 q1 => ?_
  cases k with
  | true => exact iteT (q1 H1 (Ext.refl _) R1)
  | false => exact iteF ⟨ρ1, R1, q1⟩
theorem t_w {t : Tx} (h : WOk g e t) : TOk g e t := fun X W A tk => (h X W A tk).pt
theorem t_not {t : Tx} (h : TOk g a t) : TOk g (.UnaryOp .Not a pos) (tNot t) := fun X W A tk =>
  PT.imp (pt_not (h X W A tk)) fun σ H Q ⟨ρ, R, q⟩ => tT_step R q fun k ρ1 H1 R1 E1 q1 => q1 H1 (Ext.refl _) R1
/-- .. as values, of bools -/
def eAnd (fa fb : Ex) : Ex := fun ρ => fa ρ >>= fun p => pk p.2 p.1 >>= fun d => match d with
  | .bl true => fb p.2
  | .bl false => .ok (.v (.bl false), p.2)
  | _ => .stuck
def eOr (fa fb : Ex) : Ex := fun ρ => fa ρ >>= fun p => pk p.2 p.1 >>= fun d => match d with
  | .bl true => .ok (.v (.bl true), p.2)
  | .bl false => fb p.2
  | _ => .stuck
def eNot (fa : Ex) : Ex := fun ρ => fa ρ >>= fun p => pk p.2 p.1 >>= fun d => match d with
  | .bl k => .ok (.v (.bl (!k)), p.2)
  | _ => .stuck
theorem e_one {op : BoolOp} {fa : Ex} (h : EOk g a fa) : EOk g (.BoolOp op [a] pos) fa := fun X W A tk => pe_one (h X W A tk)
theorem e_and {fa fb : Ex} (h : EOk g a fa) (h2 : EOk g (.BoolOp .And (b :: rest) pos) fb) : EOk g (.BoolOp .And (a :: b :: rest) pos) (eAnd fa fb) := fun X W A tk => by
  refine PE.imp (pe_and (h.n A tk) (h2 X W A tk)) fun σ H Q ⟨ρ, R, q⟩ => tN_step R q fun s1 ρ1 x H1 R1 E1 n1 q1 => ?_
  obtain ⟨d1, h1, q3⟩ := q1.pk
  have rd := pk_rd n1 R1 (Ext.refl _) h1
  cases d1 with
  | bl k =>
    refine ⟨k, rd.bl, ?_⟩
    cases k with
    | true => exact iteT ⟨ρ1, R1, q3⟩
    | false => exact iteF (q3 H1 (Ext.refl _) R1 _ rfl)
  | _ => exact q3.elim
theorem e_or {fa fb : Ex} (h : EOk g a fa) (h2 : EOk g (.BoolOp .Or (b :: rest) pos) fb) : EOk g (.BoolOp .Or (a :: b :: rest) pos) (eOr fa fb) := fun X W A tk => by
  refine PE.imp (pe_or (h.n A tk) (h2 X W A tk)) fun σ H Q ⟨ρ, R, q⟩ => tN_step R q fun s1 ρ1 x H1 R1 E1 n1 q1 => ?_
  obtain ⟨d1, h1, q3⟩ := q1.pk
  have rd := pk_rd n1 R1 (Ext.refl _) h1
  cases d1 with
  | bl k =>
    refine ⟨k, rd.bl, ?_⟩
    cases k with
    | true => exact iteT (q3 H1 (Ext.refl _) R1 _ rfl)
    | false => exact iteF ⟨ρ1, R1, q3⟩
  | _ => exact q3.elim
theorem e_not {fa : Ex} (h : EOk g a fa) : EOk g (.UnaryOp .Not a pos) (eNot fa) := fun X W A tk => by
  refine PE.imp (pe_not (h.n A tk)) fun σ H Q ⟨ρ, R, q⟩ => tN_step R q fun s1 ρ1 x H1 R1 E1 n1 q1 => ?_
  obtain ⟨d1, h1, q3⟩ := q1.pk
  have rd := pk_rd n1 R1 (Ext.refl _) h1
  cases d1 with
  | bl k => exact ⟨k, rd.bl, q3 H1 (Ext.refl _) R1 _ rfl⟩
  | _ => exact q3.elim
def eIf (t : Tx) (fa fb : Ex) : Ex := fun ρ => t ρ >>= fun p => if p.1 = true then fa p.2 else fb p.2
theorem tE_ext {K : PySem.W.Frag} {f : Ex} {W : WX} {σ : L2.St} {H : Hp} {Q : VK} {ρ : Rho} (R : ER K g ρ σ H) (q : Pst K g σ H W (fun p H' => ER K g p.2 σ H' → ∀ x, SR K g p.2 σ H' p.1 x → Q x H') (f ρ)) : tE K g f W σ H Q := ⟨ρ, R, q⟩
theorem e_if {t : Tx} {fa fb : Ex} (h : TOk g c t) (ha : EOk g a fa) (hb : EOk g b fb) : EOk g (.IfExp c a b pos) (eIf t fa fb) := fun X W A tk => by
  refine PE.imp (pe_ifExp (h X W A tk) (ha X W A tk) (hb X W A tk)) fun σ H Q ⟨ρ, R, q⟩ => tT_step R q fun k ρ1 H1 R1 E1 q1 => ?_
  cases k with
  | true => exact iteT ⟨ρ1, R1, q1⟩
  | false => exact iteF ⟨ρ1, R1, q1⟩
end
end PL

namespace PL
open PySem PySem.Spec PyProof.Rows L2
/-! ### locks of own objects -/
theorem lock_slot {K : PySem.W.Frag} {g : Cf} {ρ : Rho} {σ : L2.St} {H : Hp} {i : Nat} {d : D} (R : ER K g ρ σ H) (hi : ρ[i]? = some (some (.o d))) (hio : i ∉ g.ios) :
    ∃ a u, σ[i]? = some (some (.ref a)) ∧ H a = some u ∧ Mut (some u) ∧ ∀ od, ER K g (ρ.set i (some (.v d))) σ (upd H a (.frz od u)) ∧ Ext H (upd H a (.frz od u)) ∧ Imm K (upd H a (.frz od u)) d (.ref a) := by
  obtain ⟨a, ha, o⟩ := R.own i d hi
  obtain ⟨u, hu, mu⟩ := o.some
  refine ⟨a, u, ha, hu, mu, fun od => ?_⟩
  have x : Ext H (upd H a (.frz od u)) := fun b ob hb => by
    by_cases hba : b = a
    · subst hba
      rw [hu] at hb; cases hb
      exact ⟨fun xs e => by subst e; exact mu.elim, fun _ _ e => by subst e; exact mu.elim⟩
    · exact ⟨fun _ _ => by rw [upd_ne hba]; exact hb, fun _ _ _ => by rw [upd_ne hba]; exact hb⟩
  have im : Imm K (upd H a (.frz od u)) d (.ref a) := by
    cases d with
    | lst ds =>
      obtain ⟨vs, h1, h2⟩ := o
      rw [hu] at h1; cases h1
      exact ⟨a, vs, rfl, ⟨od, upd_same⟩, ImmL.ext x ds vs h2⟩
    | dic t kvs =>
      cases t with
      | false =>
        obtain ⟨kws, h1, h2⟩ := o
        rw [hu] at h1; cases h1
        exact ⟨a, od, kws, rfl, upd_same, ImmK.ext x kvs kws h2⟩
      | true =>
        obtain ⟨kws, h1, h2⟩ := o
        rw [hu] at h1; cases h1
        exact ⟨a, od, kws, rfl, upd_same, ImmT.ext x kvs kws h2⟩
    | _ => exact o.elim
  have hlt : i < ρ.length := by
    rcases Nat.lt_or_ge i ρ.length with h | h
    · exact h
    · rw [List.getElem?_eq_none h] at hi; cases hi
  have notio : ∀ j, (j, a) ∉ g.io := fun j hj => by
    obtain ⟨h1, d', h2⟩ := R.io _ hj
    have := R.sep i j d d' a hi h2 ha h1
    subst this
    exact hio (List.mem_map.mpr ⟨_, hj, rfl⟩)
  have h0 : g.H0 a = none := (R.new i d a hi ha).elim id fun z => (notio i z).elim
  refine ⟨⟨by rw [List.length_set]; exact R.len, fun j e hj => ?_, fun j e hj => ?_, fun j m hj => ?_, fun j m e e' b hj hm => ?_, fun b ob hb hp => ?_, fun j e b hj hb => ?_, fun p hp => ?_⟩, x, im⟩
  · by_cases hji : j = i
    · subst hji
      rw [List.getElem?_set_self hlt] at hj
      cases hj
      exact ⟨_, ha, im⟩
    · rw [List.getElem?_set_ne (Ne.symm hji)] at hj
      obtain ⟨y, h1, h2⟩ := R.val j e hj
      exact ⟨y, h1, Imm.ext x e y h2⟩
  · have hji : j ≠ i := fun z => by
      subst z
      rw [List.getElem?_set_self hlt] at hj
      cases hj
    rw [List.getElem?_set_ne (Ne.symm hji)] at hj
    obtain ⟨b, h1, h2⟩ := R.own j e hj
    have hb : b ≠ a := fun z => by
      subst z
      exact hji (R.sep j i e d b hj hi h1 ha)
    exact ⟨b, h1, h2.ext x (upd_ne hb)⟩
  · by_cases hji : j = i
    · subst hji
      rw [List.getElem?_set_self hlt] at hj
      cases hj
    · rw [List.getElem?_set_ne (Ne.symm hji)] at hj
      exact R.bor j m hj
  · have hji : j ≠ i := fun z => by subst z; rw [List.getElem?_set_self hlt] at hj; cases hj
    have hmi : m ≠ i := fun z => by subst z; rw [List.getElem?_set_self hlt] at hm; cases hm
    rw [List.getElem?_set_ne (Ne.symm hji)] at hj
    rw [List.getElem?_set_ne (Ne.symm hmi)] at hm
    exact R.sep j m e e' b hj hm
  · rw [upd_ne (fun z => by rw [z, h0] at hb; cases hb)]
    exact R.old b ob hb hp
  · have hji : j ≠ i := fun z => by subst z; rw [List.getElem?_set_self hlt] at hj; cases hj
    rw [List.getElem?_set_ne (Ne.symm hji)] at hj
    exact R.new j e b hj hb
  · obtain ⟨h1, d', h2⟩ := R.io p hp
    refine ⟨h1, ?_⟩
    have hpi : p.1 ≠ i := fun z => hio (List.mem_map.mpr ⟨p, hp, z⟩)
    rw [List.getElem?_set_ne (Ne.symm hpi)]
    exact ⟨d', h2⟩
/-- a value is shared: locked if it is an own object -/
theorem fz_ok {X : Cx} {g : Cf} {pins : List (Addr × Obj)} {σ : L2.St} {H : Hp} {s : Shared} {z : S} {x : V} {ρ ρ' : Rho} {d : D} (I : Inv X pins σ H s) (R : ER X.K g ρ σ H) (n : NR X.K σ H z x) (h : fz g.ios z ρ = .ok (d, ρ')) :
    ∃ H', Inv X pins σ H' s ∧ ER X.K g ρ' σ H' ∧ Ext H H' ∧ Imm X.K H' d x := by
  cases z with
  | v d' => cases h; exact ⟨H, I, R, Ext.refl H, n⟩
  | o d' => cases h; exact ⟨H, I, R, Ext.refl H, n⟩
  | b i =>
    have n1 : σ[i]? = some (some x) := n
    simp only [fz] at h
    split at h
    · cases h
    · rename_i hio
      cases hs : ρ[i]? with
      | none => simp only [hs] at h; cases h
      | some o =>
        cases o with
        | none => simp only [hs] at h; cases h
        | some w =>
          cases w with
          | b j => simp only [hs] at h; cases h
          | v d' =>
            simp only [hs] at h
            cases h
            obtain ⟨y, h1, h2⟩ := R.val i _ hs
            rw [n1] at h1; cases h1
            exact ⟨H, I, R, Ext.refl H, h2⟩
          | o d' =>
            simp only [hs] at h
            cases h
            obtain ⟨a, u, ha, hu, mu, F⟩ := lock_slot R hs hio
            rw [n1] at ha; cases ha
            obtain ⟨od, I2⟩ := I.lock hu mu
            obtain ⟨R2, e2, im⟩ := F od
            exact ⟨_, I2, R2, e2, im⟩
theorem fz_noexc {l : List Nat} {ρ ρ' : Rho} {s : S} {c : Str} (h : fz l s ρ = .exc c ρ') : False := by
  cases s with
  | v d => cases h
  | o d => cases h
  | b i =>
    simp only [fz] at h
    split at h
    · cases h
    · split at h <;> cases h
def fzL (l : List Nat) : List S → Rho → Out (List D × Rho)
  | [], ρ => .ok ([], ρ)
  | s :: ss, ρ => fz l s ρ >>= fun p => fzL l ss p.2 >>= fun q => .ok (p.1 :: q.1, q.2)
def NRL (K : PySem.W.Frag) (σ : L2.St) (H : Hp) : List S → List V → Prop
  | [], xs => xs = []
  | s :: ss, xs => ∃ x r, xs = x :: r ∧ NR K σ H s x ∧ NRL K σ H ss r
theorem NR.ext {K : PySem.W.Frag} {σ : L2.St} {H H' : Hp} (e : Ext H H') : ∀ {s : S} {x : V}, NR K σ H s x → NR K σ H' s x
  | .v d, x, h => Imm.ext e d x h
  | .o d, x, h => Imm.ext e d x h
  | .b i, x, h => h
theorem NRL.ext {K : PySem.W.Frag} {σ : L2.St} {H H' : Hp} (e : Ext H H') : ∀ {s : List S} {x : List V}, NRL K σ H s x → NRL K σ H' s x
  | [], x, h => h
  | s :: ss, x, ⟨y, r, h1, h2, h3⟩ => ⟨y, r, h1, NR.ext e h2, NRL.ext e h3⟩
theorem fzL_noexc {l : List Nat} : ∀ {ss : List S} {ρ ρ' : Rho} {c : Str}, fzL l ss ρ = .exc c ρ' → False
  | [], _, _, _, h => nomatch h
  | s :: ss, ρ, ρ', c, h => by
    unfold fzL at h
    cases hs : fz l s ρ with
    | stuck => rw [hs] at h; cases h
    | exc c ρ' => exact fz_noexc hs
    | ok p =>
      rw [hs] at h
      simp only [bind_ok] at h
      cases hr : fzL l ss p.2 with
      | stuck => rw [hr] at h; cases h
      | exc c ρ' => exact fzL_noexc hr
      | ok q => rw [hr] at h; cases h
theorem fzL_ok {X : Cx} {g : Cf} {pins : List (Addr × Obj)} {σ : L2.St} {s : Shared} : ∀ {zs : List S} {xs : List V} {H : Hp} {ρ ρ' : Rho} {ds : List D}, Inv X pins σ H s → ER X.K g ρ σ H → NRL X.K σ H zs xs → fzL g.ios zs ρ = .ok (ds, ρ') →
    ∃ H', Inv X pins σ H' s ∧ ER X.K g ρ' σ H' ∧ Ext H H' ∧ ImmL X.K H' ds xs
  | [], xs, H, ρ, ρ', ds, I, R, n, h => by cases h; exact ⟨H, I, R, Ext.refl H, n⟩
  | z :: zs, xs, H, ρ, ρ', ds, I, R, ⟨y, r, h1, h2, h3⟩, h => by
    subst h1
    unfold fzL at h
    cases hs : fz g.ios z ρ with
    | stuck => rw [hs] at h; cases h
    | exc c ρ' => exact (fz_noexc hs).elim
    | ok p =>
      rw [hs] at h
      simp only [bind_ok] at h
      cases hr : fzL g.ios zs p.2 with
      | stuck => rw [hr] at h; cases h
      | exc c ρ' => exact (fzL_noexc hr).elim
      | ok q =>
        rw [hr] at h
        cases h
        obtain ⟨H1, I1, R1, E1, im1⟩ := fz_ok I R h2 (d := p.1) (ρ' := p.2) hs
        obtain ⟨H2, I2, R2, E2, im2⟩ := fzL_ok I1 R1 (NRL.ext E1 h3) (ds := q.1) (ρ' := q.2) hr
        exact ⟨H2, I2, R2, E1.trans E2, y, r, rfl, Imm.ext E2 _ _ im1, im2⟩
theorem Pst.fz {K : PySem.W.Frag} {g : Cf} {σ : L2.St} {H : Hp} {W : WX} {β : Type} {G : β → Hp → Prop} {l : List Nat} {ρ : Rho} {s : S} {k : D × Rho → Out β} (q : Pst K g σ H W G (PL.fz l s ρ >>= k)) : ∃ p, PL.fz l s ρ = .ok p ∧ Pst K g σ H W G (k p) := by
  cases h : PL.fz l s ρ with
  | stuck => rw [h] at q; exact q.elim
  | exc c ρ' => exact (fz_noexc h).elim
  | ok d => rw [h] at q; exact ⟨d, rfl, q⟩
theorem Pst.fzL {K : PySem.W.Frag} {g : Cf} {σ : L2.St} {H : Hp} {W : WX} {β : Type} {G : β → Hp → Prop} {l : List Nat} {ρ : Rho} {s : List S} {k : List D × Rho → Out β} (q : Pst K g σ H W G (PL.fzL l s ρ >>= k)) : ∃ p, PL.fzL l s ρ = .ok p ∧ Pst K g σ H W G (k p) := by
  cases h : PL.fzL l s ρ with
  | stuck => rw [h] at q; exact q.elim
  | exc c ρ' => exact (fzL_noexc h).elim
  | ok d => rw [h] at q; exact ⟨d, rfl, q⟩
section
variable {g : Cf} {e a b c : Expr} {es : List Expr} {pos : Pos}
/-- an expression whose value is shared -/
def eF (l : List Nat) (f : Ex) : Rho → Out (D × Rho) := fun ρ => f ρ >>= fun p => fz l p.1 p.2
def tF (K : PySem.W.Frag) (g : Cf) (f : Ex) (W : WX) : TE := fun σ H Q => ∃ ρ, ER K g ρ σ H ∧ Pst K g σ H W (fun p H' => ER K g p.2 σ H' → ∀ x, Imm K H' p.1 x → Q x H') (eF g.ios f ρ)
theorem EOk.f {f : Ex} (h : EOk g e f) {X : Cx} {W : WX} (A : At g X) (tk : Takes X W) : PE X e (tF X.K g f W) := by
  refine ⟨fun pins s σ H Q I ⟨ρ, R, q⟩ => ?_⟩
  have hN := (h.n A tk).run pins s σ H (fun x H' => ∃ z ρ1 p, ER X.K g ρ1 σ H' ∧ NR X.K σ H' z x ∧ fz g.ios z ρ1 = .ok p ∧ ∀ H2, Ext H' H2 → ER X.K g p.2 σ H2 → ∀ x, Imm X.K H2 p.1 x → Q x H2) I (by
    refine tN_step R q fun z ρ1 x H1 R1 E1 n1 q1 => ?_
    cases hf : fz g.ios z ρ1 with
    | stuck => rw [hf] at q1; exact q1.elim
    | exc c ρ' => exact (fz_noexc hf).elim
    | ok p => rw [hf] at q1; exact ⟨z, ρ1, p, R1, n1, hf, q1⟩)
  refine thn hN fun u s1 ⟨x, H1, I1, r1, z, ρ1, p, R1, n1, hf, q1⟩ => ?_
  obtain ⟨H2, I2, R2, E2, im⟩ := fz_ok I1 R1 n1 (d := p.1) (ρ' := p.2) hf
  exact ⟨x, H2, I2, r1, q1 H2 E2 R2 x im⟩
theorem tF_step {K : PySem.W.Frag} {σ : L2.St} {H : Hp} {W : WX} {β : Type} {G : β → Hp → Prop} {ρ : Rho} {fa : Ex} {k : D × Rho → Out β} {Q : VK} (R : ER K g ρ σ H) (q : Pst K g σ H W G (eF g.ios fa ρ >>= k))
    (h : ∀ d ρ1 x H1, ER K g ρ1 σ H1 → Ext H H1 → Imm K H1 d x → Pst K g σ H1 W G (k (d, ρ1)) → Q x H1) : tF K g fa W σ H Q := by
  refine ⟨ρ, R, ?_⟩
  cases ha : eF g.ios fa ρ with
  | stuck => rw [ha] at q; exact q.elim
  | exc c ρ1 => rw [ha] at q; exact q
  | ok p =>
    rw [ha] at q
    exact fun H1 E1 R1 x n => h p.1 p.2 x H1 R1 E1 n (Pst.ext E1 (r := k p) q)

/-! ### argument lists -/
abbrev Ax := Rho → Out (List S × Rho)
def tA (K : PySem.W.Frag) (g : Cf) (f : Ax) (W : WX) : TA := fun σ H Q => ∃ ρ, ER K g ρ σ H ∧ Pst K g σ H W (fun p H' => ER K g p.2 σ H' → ∀ x, NRL K σ H' p.1 x → Q x H') (f ρ)
def AOk (g : Cf) (es : List Expr) (f : Ax) : Prop := ∀ (X : Cx) (W : WX), At g X → Takes X W → PA X es (tA X.K g f W)
def aNil : Ax := fun ρ => .ok ([], ρ)
def aCons (f : Ex) (r : Ax) : Ax := fun ρ => f ρ >>= fun p => r p.2 >>= fun q => .ok (p.1 :: q.1, q.2)
theorem tA_step {K : PySem.W.Frag} {σ : L2.St} {H : Hp} {W : WX} {β : Type} {G : β → Hp → Prop} {ρ : Rho} {fa : Ax} {k : List S × Rho → Out β} {Q : List V → Hp → Prop} (R : ER K g ρ σ H) (q : Pst K g σ H W G (fa ρ >>= k))
    (h : ∀ s ρ1 x H1, ER K g ρ1 σ H1 → Ext H H1 → NRL K σ H1 s x → Pst K g σ H1 W G (k (s, ρ1)) → Q x H1) : tA K g fa W σ H Q := by
  refine ⟨ρ, R, ?_⟩
  cases ha : fa ρ with
  | stuck => rw [ha] at q; exact q.elim
  | exc c ρ1 => rw [ha] at q; exact q
  | ok p =>
    rw [ha] at q
    exact fun H1 E1 R1 x n => h p.1 p.2 x H1 R1 E1 n (Pst.ext E1 (r := k p) q)
theorem a_nil : AOk g [] aNil := fun X W A tk => PA.imp pa_nil fun σ H Q ⟨ρ, R, q⟩ => q H (Ext.refl H) R [] rfl
theorem a_cons {f : Ex} {r : Ax} (h : EOk g e f) (hr : AOk g es r) (hs : ∀ env, starEach (e :: es) env = (false, eval e env) :: starEach es env := by intro _; rfl) : AOk g (e :: es) (aCons f r) := fun X W A tk => by
  refine PA.imp (pa_cons (h.n A tk) (hr X W A tk) (hs _)) fun σ H Q ⟨ρ, R, q⟩ => tN_step R q fun s1 ρ1 x H1 R1 E1 n1 q1 => tA_step R1 q1 fun s2 ρ2 xs H2 R2 E2 n2 q2 => ?_
  exact q2 H2 (Ext.refl _) R2 _ ⟨x, xs, rfl, NR.ext E2 n1, n2⟩
/-- .. all of them shared -/
def aF (l : List Nat) (f : Ax) : Rho → Out (List D × Rho) := fun ρ => f ρ >>= fun p => fzL l p.1 p.2
def tAF (K : PySem.W.Frag) (g : Cf) (f : Ax) (W : WX) : TA := fun σ H Q => ∃ ρ, ER K g ρ σ H ∧ Pst K g σ H W (fun p H' => ER K g p.2 σ H' → ∀ x, ImmL K H' p.1 x → Q x H') (aF g.ios f ρ)
theorem AOk.f {f : Ax} (h : AOk g es f) {X : Cx} {W : WX} (A : At g X) (tk : Takes X W) : PA X es (tAF X.K g f W) := by
  refine ⟨fun pos pins s σ H Q I ⟨ρ, R, q⟩ => ?_⟩
  have hN := (h X W A tk).run pos pins s σ H (fun x H' => ∃ z ρ1 p, ER X.K g ρ1 σ H' ∧ NRL X.K σ H' z x ∧ fzL g.ios z ρ1 = .ok p ∧ ∀ H2, Ext H' H2 → ER X.K g p.2 σ H2 → ∀ x, ImmL X.K H2 p.1 x → Q x H2) I (by
    refine tA_step R q fun z ρ1 x H1 R1 E1 n1 q1 => ?_
    cases hf : fzL g.ios z ρ1 with
    | stuck => rw [hf] at q1; exact q1.elim
    | exc c ρ' => exact (fzL_noexc hf).elim
    | ok p => rw [hf] at q1; exact ⟨z, ρ1, p, R1, n1, hf, q1⟩)
  refine thn hN fun u s1 ⟨x, H1, I1, r1, z, ρ1, p, R1, n1, hf, q1⟩ => ?_
  obtain ⟨H2, I2, R2, E2, im⟩ := fzL_ok I1 R1 n1 (ds := p.1) (ρ' := p.2) hf
  exact ⟨x, H2, I2, r1, q1 H2 E2 R2 x im⟩
theorem tAF_step {K : PySem.W.Frag} {σ : L2.St} {H : Hp} {W : WX} {β : Type} {G : β → Hp → Prop} {ρ : Rho} {fa : Ax} {k : List D × Rho → Out β} {Q : List V → Hp → Prop} (R : ER K g ρ σ H) (q : Pst K g σ H W G (aF g.ios fa ρ >>= k))
    (h : ∀ s ρ1 x H1, ER K g ρ1 σ H1 → Ext H H1 → ImmL K H1 s x → Pst K g σ H1 W G (k (s, ρ1)) → Q x H1) : tAF K g fa W σ H Q := by
  refine ⟨ρ, R, ?_⟩
  cases ha : aF g.ios fa ρ with
  | stuck => rw [ha] at q; exact q.elim
  | exc c ρ1 => rw [ha] at q; exact q
  | ok p =>
    rw [ha] at q
    exact fun H1 E1 R1 x n => h p.1 p.2 x H1 R1 E1 n (Pst.ext E1 (r := k p) q)
/-! ### displays -/
def eTup (l : List Nat) (f : Ax) : Ex := fun ρ => aF l f ρ >>= fun p => if p.1.length ≤ 16777216 then .ok (.v (.tup p.1), p.2) else .stuck
def eLst (l : List Nat) (f : Ax) : Ex := fun ρ => aF l f ρ >>= fun p => if p.1.length ≤ 16777216 then .ok (.o (.lst p.1), p.2) else .stuck
theorem new_tup {K : PySem.W.Frag} {H : Hp} {p : Addr} {o : HO} (h : H p = none) : Same H (upd H p o) := fun b x e => by
  rw [upd_ne (ne_of_none e h)]
  exact e
theorem line_le {n : Nat} (h : n ≤ 16777216) : n ≤ sizeLine := by rw [sizeLine_eq]; exact h
theorem e_tup {f : Ax} {x1 : Nat} (h : AOk g es f) : EOk g (.Tuple es x1 pos) (eTup g.ios f) := fun X W A tk => by
  refine PE.imp (pe_tup (h.f A tk)) fun σ H Q ⟨ρ, R, q⟩ => tAF_step R q fun ds ρ1 xs H1 R1 E1 im q1 => ?_
  dsimp only at q1
  split at q1
  · rename_i hl
    refine ⟨line_le (by rw [im.len]; exact hl), fun p hp => ?_⟩
    have sm : Same H1 (upd H1 p (.tup xs)) := new_tup (K := X.K) hp
    exact q1 _ (Ext.of_same sm) (R1.same sm) _ ⟨p, xs, rfl, TpT.of upd_same, ImmL.ext (Ext.of_same sm) _ _ im⟩
  · exact q1.elim
theorem e_lst {f : Ax} (h : AOk g es f) : EOk g (.List es pos) (eLst g.ios f) := fun X W A tk => by
  refine PE.imp (pe_lst (h.f A tk)) fun σ H Q ⟨ρ, R, q⟩ => tAF_step R q fun ds ρ1 xs H1 R1 E1 im q1 => ?_
  dsimp only at q1
  split at q1
  · rename_i hl
    refine ⟨line_le (by rw [im.len]; exact hl), fun p hp => ?_⟩
    have sm : Same H1 (upd H1 p (.lst xs)) := new_tup (K := X.K) hp
    exact q1 _ (Ext.of_same sm) (R1.same sm) _ ⟨p, rfl, ⟨xs, upd_same, ImmL.ext (Ext.of_same sm) _ _ im⟩, not_own R1 hp, not_old R1 hp⟩
  · exact q1.elim
end
end PL

namespace PL
open PySem PySem.Spec PyProof.Rows L2
/-! ### equality of plain values -/
mutual
def toPy : D → PyData
  | .non => .none
  | .bl b => .bool b
  | .int i => .int i
  | .str x => .str x
  | .tup ds => .tuple (toPyL ds)
  | .lst ds => .list (toPyL ds)
  | .dic _ _ => .dict []
  | .scr _ => .dict []
  | .ktp ds => .tuple (toPyL ds)
def toPyL : List D → List PyData
  | [] => []
  | d :: ds => toPy d :: toPyL ds
end
def shp (d : D) : Bool := SeqAt.shaped (toPy d)
def eqD (d e : D) : Bool := PyData.eqv (toPy d) (toPy e)
mutual
theorem dp_imm {K : PySem.W.Frag} {H : Hp} : ∀ {d : D} {x : V}, Imm K H d x → PyData.canLay0 (toPy d) = true → Dp K H x (toPy d)
  | .non, _, h, _ => by cases (show _ = _ from h); exact .non
  | .bl b, _, h, _ => by cases (show _ = _ from h); exact .bl b
  | .int b, _, h, _ => by cases (show _ = _ from h); exact .int b
  | .str b, _, h, _ => by cases (show _ = _ from h); exact .str b
  | .tup ds, _, ⟨a, vs, e, h1, h2⟩, hc => by subst e; exact .tup h1.seq (dp_immL h2 (by simpa [toPy, PyData.canLay0] using hc))
  | .lst ds, _, ⟨a, vs, e, h1, h2⟩, hc => by subst e; exact .lst h1.seq (dp_immL h2 (by simpa [toPy, PyData.canLay0] using hc))
  | .dic _ _, _, _, hc => by simp [toPy, PyData.canLay0] at hc
  | .ktp ds, _, ⟨a, vs, e, h1, h2⟩, hc => by subst e; exact .tup h1.seq (dp_immL h2 (by simpa [toPy, PyData.canLay0] using hc))
  | .scr _, _, _, hc => by simp [toPy, PyData.canLay0] at hc
theorem dp_immL {K : PySem.W.Frag} {H : Hp} : ∀ {d : List D} {x : List V}, ImmL K H d x → PyData.canLayAll0 (toPyL d) = true → DpAll K H x (toPyL d)
  | [], _, h, _ => by cases (show _ = _ from h); exact .nil
  | d :: ds, _, ⟨v, r, e, h1, h2⟩, hc => by
    subst e
    have hc : PyData.canLay0 (toPy d) = true ∧ PyData.canLayAll0 (toPyL ds) = true := by simpa [toPyL, PyData.canLayAll0] using hc
    exact .cons (dp_imm h1 hc.1) (dp_immL h2 hc.2)
end
theorem dp_rd {K : PySem.W.Frag} {H : Hp} {d : D} {x : V} (h : Rd K H d x) (hc : PyData.canLay0 (toPy d) = true) : Dp K H x (toPy d) := by
  rcases h with h | ⟨a, e, h⟩
  · exact dp_imm h hc
  · cases d with
    | lst ds =>
      obtain ⟨vs, h1, h2⟩ := h
      subst e
      exact .lst (SqL.of h1) (dp_immL h2 (by simpa [toPy, PyData.canLay0] using hc))
    | dic t kvs => simp [toPy, PyData.canLay0] at hc
    | _ => exact h.elim
def flat : D → Bool
  | .non => true | .bl _ => true | .int _ => true | .str _ => true | _ => false
def flatX : D → D → Bool
  | .non, .non => true | .non, .int _ => true | .int _, .non => true | .non, .bl _ => true | .bl _, .non => true | .non, .str _ => true | .str _, .non => true
  | .int _, .int _ => true | .bl _, .bl _ => true | .str _, .str _ => true
  | .int _, .str _ => true | .str _, .int _ => true | .bl _, .str _ => true | .str _, .bl _ => true
  | _, _ => false
def dEq (d e : D) : Option Bool := if flatX d e = true then some (eqD d e) else if shp d = true ∧ shp e = true then some (eqD d e) else none
def dNe (d e : D) : Option Bool := (dEq d e).map (!·)
theorem flat_scal {K : PySem.W.Frag} {H : Hp} {d e : D} {x y : V} (h : flatX d e = true) (r1 : Rd K H d x) (r2 : Rd K H e y) : scal x y = true ∧ decide (x = y) = eqD d e := by
  cases d <;> cases e <;> simp only [flatX] at h <;> try (exact absurd h (by decide))
  all_goals first
    | (cases r1.non; cases r2.non; exact ⟨rfl, rfl⟩)
    | (cases r1.non; cases r2.int; exact ⟨rfl, rfl⟩)
    | (cases r1.int; cases r2.non; exact ⟨rfl, rfl⟩)
    | (cases r1.non; cases r2.bl; exact ⟨rfl, rfl⟩)
    | (cases r1.bl; cases r2.non; exact ⟨rfl, rfl⟩)
    | (cases r1.non; cases r2.str; exact ⟨rfl, rfl⟩)
    | (cases r1.str; cases r2.non; exact ⟨rfl, rfl⟩)
    | (cases r1.int; cases r2.int; exact ⟨rfl, by rw [dec_int]; rfl⟩)
    | (cases r1.bl; cases r2.bl; exact ⟨rfl, by rw [dec_bl]; rfl⟩)
    | (cases r1.str; cases r2.str; exact ⟨rfl, by rw [dec_str]; rfl⟩)
    | (cases r1.int; cases r2.str; exact ⟨rfl, rfl⟩)
    | (cases r1.str; cases r2.int; exact ⟨rfl, rfl⟩)
    | (cases r1.bl; cases r2.str; exact ⟨rfl, rfl⟩)
    | (cases r1.str; cases r2.bl; exact ⟨rfl, rfl⟩)
theorem lay_of_shp {d : D} (h : shp d = true) : PyData.canLay0 (toPy d) = true := SeqAt.canLay_of_shaped h
section
variable {g : Cf} {X : Cx}
theorem o_eq (A : At g X) : OpB X (compareOp .Eq) dEq := by
  refine ⟨_, OpR.or op_eq (op_eqD A.room.units), fun x y H Q d e k r1 r2 h q => ?_⟩
  unfold dEq at h
  split at h
  · rename_i hf
    cases h
    obtain ⟨h1, h2⟩ := flat_scal hf r1 r2
    exact .inl ⟨h1, by rw [h2]; exact q⟩
  · split at h
    · rename_i hs
      cases h
      exact .inr ⟨toPy d, toPy e, dp_rd r1 (lay_of_shp hs.1), dp_rd r2 (lay_of_shp hs.2), hs.1, hs.2, q⟩
    · cases h
theorem o_ne (A : At g X) : OpB X (compareOp .NotEq) dNe := by
  refine ⟨_, OpR.or op_ne (op_neD A.room.units), fun x y H Q d e k r1 r2 h q => ?_⟩
  unfold dNe dEq at h
  split at h
  · rename_i hf
    cases h
    obtain ⟨h1, h2⟩ := flat_scal hf r1 r2
    exact .inl ⟨h1, by rw [h2]; exact q⟩
  · split at h
    · rename_i hs
      cases h
      exact .inr ⟨toPy d, toPy e, dp_rd r1 (lay_of_shp hs.1), dp_rd r2 (lay_of_shp hs.2), hs.1, hs.2, q⟩
    · cases h
/-! ### order -/
def intsD : List D → Option (List Int)
  | [] => some []
  | .int i :: ds => (intsD ds).map (i :: ·)
  | _ :: _ => none
theorem immL_ints {K : PySem.W.Frag} {H : Hp} : ∀ {ds : List D} {vs : List V} {ns : List Int}, ImmL K H ds vs → intsD ds = some ns → vs = ns.map V.int
  | [], _, _, h, e => by cases (show _ = _ from h); cases e; rfl
  | .int i :: ds, _, ns, ⟨v, r, e1, h1, h2⟩, e => by
    subst e1
    cases (show _ = _ from h1)
    simp only [intsD] at e
    cases hh : intsD ds with
    | none => rw [hh] at e; cases e
    | some ms =>
      rw [hh] at e
      cases e
      rw [List.map_cons, immL_ints h2 hh]
  | .non :: _, _, _, _, e => nomatch e
  | .bl _ :: _, _, _, _, e => nomatch e
  | .str _ :: _, _, _, _, e => nomatch e
  | .tup _ :: _, _, _, _, e => nomatch e
  | .lst _ :: _, _, _, _, e => nomatch e
  | .dic _ _ :: _, _, _, _, e => nomatch e
  | .scr _ :: _, _, _, _, e => nomatch e
  | .ktp _ :: _, _, _, _, e => nomatch e
def dLt : D → D → Option Bool
  | .int i, .int j => some (decide (i < j))
  | .str i, .str j => some (decide (i.cps.toList < j.cps.toList))
  | .tup ds, .tup es => match intsD ds, intsD es with
    | some ns, some ms => some (HT.lexLt ns ms)
    | _, _ => none
  | _, _ => none
theorem o_lt (A : At g X) : OpB X (compareOp .Lt) dLt := by
  refine ⟨_, OpR.or op_lt (OpR.or op_lt_str (op_ltT A.room.units0)), fun x y H Q d e k r1 r2 h q => ?_⟩
  cases d <;> cases e <;> simp only [dLt] at h <;> try (cases h; done)
  · cases h; exact .inl ⟨_, _, r1.int, r2.int, q⟩
  · cases h; exact .inr (.inl ⟨_, _, r1.str, r2.str, q⟩)
  · rename_i ds es
    cases h1 : intsD ds with
    | none => rw [h1] at h; cases h
    | some ns =>
      cases h2 : intsD es with
      | none => rw [h1, h2] at h; cases h
      | some ms =>
        rw [h1, h2] at h
        cases h
        obtain ⟨a, vs, e1, s1, i1⟩ := r1.tup
        obtain ⟨b, ws, e2, s2, i2⟩ := r2.tup
        exact .inr (.inr ⟨a, b, ns, ms, e1, e2, by rw [← immL_ints i1 h1]; exact s1.seq, by rw [← immL_ints i2 h2]; exact s2.seq, q⟩)
def dLe : D → D → Option Bool
  | .int i, .int j => some (decide (i ≤ j))
  | .str i, .str j => some (!decide (j.cps.toList < i.cps.toList))
  | _, _ => none
def dGt : D → D → Option Bool
  | .int i, .int j => some (decide (j < i))
  | .str i, .str j => some (decide (j.cps.toList < i.cps.toList))
  | _, _ => none
def dGe : D → D → Option Bool
  | .int i, .int j => some (decide (j ≤ i))
  | .str i, .str j => some (!decide (i.cps.toList < j.cps.toList))
  | _, _ => none
theorem o_le (A : At g X) : OpB X (compareOp .LtE) dLe := by
  refine ⟨_, OpR.or op_le op_le_str, fun x y H Q d e k r1 r2 h q => ?_⟩
  cases d <;> cases e <;> simp only [dLe] at h <;> cases h
  · exact .inl ⟨_, _, r1.int, r2.int, q⟩
  · exact .inr ⟨_, _, r1.str, r2.str, q⟩
theorem o_gt (A : At g X) : OpB X (compareOp .Gt) dGt := by
  refine ⟨_, OpR.or op_gt op_gt_str, fun x y H Q d e k r1 r2 h q => ?_⟩
  cases d <;> cases e <;> simp only [dGt] at h <;> cases h
  · exact .inl ⟨_, _, r1.int, r2.int, q⟩
  · exact .inr ⟨_, _, r1.str, r2.str, q⟩
theorem o_ge (A : At g X) : OpB X (compareOp .GtE) dGe := by
  refine ⟨_, OpR.or op_ge op_ge_str, fun x y H Q d e k r1 r2 h q => ?_⟩
  cases d <;> cases e <;> simp only [dGe] at h <;> cases h
  · exact .inl ⟨_, _, r1.int, r2.int, q⟩
  · exact .inr ⟨_, _, r1.str, r2.str, q⟩
/-- is None, is not None -/
def dIsNon : D → Bool
  | .non => true
  | _ => false
def dIsBl (k : Bool) : D → Bool
  | .bl b => b == k
  | _ => false
def dIs (d e : D) : Option Bool := match e with
  | .non => some (dIsNon d)
  | .bl k => some (dIsBl k d)
  | _ => none
def dIsNot (d e : D) : Option Bool := match e with
  | .non => some (!dIsNon d)
  | .bl k => some (!dIsBl k d)
  | _ => none
theorem isNon_of {K : PySem.W.Frag} {H : Hp} {d : D} {x : V} (r : Rd K H d x) : decide (x = .non) = dIsNon d := by
  cases d with
  | non => cases r.non; rfl
  | bl b => cases r.bl; rfl
  | int b => cases r.int; rfl
  | str b => cases r.str; rfl
  | tup ds => obtain ⟨a, vs, e, _⟩ := r.tup; subst e; rfl
  | lst ds => obtain ⟨a, vs, e, _⟩ := r.lst; subst e; rfl
  | dic t ds =>
    obtain ⟨a, e⟩ := r.dic
    subst e; rfl
  | scr ns => obtain ⟨a, e, _⟩ := r.scr; subst e; rfl
  | ktp ds => obtain ⟨a, vs, e, _⟩ := r.ktp; subst e; rfl
def vIsBl (k : Bool) : V → Bool
  | .bl b => b == k
  | _ => false
def okIs : V → Bool
  | .non => true | .bl _ => true | .int _ => true | .str _ => true | .ref _ => true | _ => false
theorem isBl_of {K : PySem.W.Frag} {H : Hp} {d : D} {x : V} {k : Bool} (r : Rd K H d x) : okIs x = true ∧ vIsBl k x = dIsBl k d := by
  cases d with
  | non => cases r.non; exact ⟨rfl, rfl⟩
  | bl b => cases r.bl; exact ⟨rfl, rfl⟩
  | int b => cases r.int; exact ⟨rfl, rfl⟩
  | str b => cases r.str; exact ⟨rfl, rfl⟩
  | tup ds => obtain ⟨a, vs, e, _⟩ := r.tup; subst e; exact ⟨rfl, rfl⟩
  | lst ds => obtain ⟨a, vs, e, _⟩ := r.lst; subst e; exact ⟨rfl, rfl⟩
  | dic t ds =>
    obtain ⟨a, e⟩ := r.dic
    subst e; exact ⟨rfl, rfl⟩
  | scr ns => obtain ⟨a, e, _⟩ := r.scr; subst e; exact ⟨rfl, rfl⟩
  | ktp ds => obtain ⟨a, vs, e, _⟩ := r.ktp; subst e; exact ⟨rfl, rfl⟩
theorem beq_bool (b k : Bool) : (Value.bool b == Value.bool k) = (b == k) := by cases b <;> cases k <;> decide
theorem op_isB : OpR X (compareOp .Is) (fun x y H Q => ∃ k, y = .bl k ∧ okIs x = true ∧ Q (.bl (vIsBl k x)) H) := by
  intro pins s σ H x y v u Q I rx ry h
  obtain ⟨k, rfl, ho, q⟩ := h
  cases ry
  cases x with
  | non => cases rx; exact wpAny_is_plain rfl (fin_bl I q (by cases k <;> rfl))
  | bl b => cases rx; exact wpAny_is_plain rfl (fin_bl I q (beq_bool b k).symm)
  | int b => obtain ⟨t, rfl⟩ := rx; exact wpAny_is_plain rfl (fin_bl I q (by cases k <;> rfl))
  | str b => obtain ⟨t, rfl⟩ := rx; exact wpAny_is_plain rfl (fin_bl I q (by cases k <;> rfl))
  | ref b => cases rx; exact wpAny_is_plain rfl (fin_bl I q (by cases k <;> rfl))
  | _ => cases ho
theorem op_isNotB : OpR X (compareOp .IsNot) (fun x y H Q => ∃ k, y = .bl k ∧ okIs x = true ∧ Q (.bl (!vIsBl k x)) H) := by
  intro pins s σ H x y v u Q I rx ry h
  obtain ⟨k, rfl, ho, q⟩ := h
  cases ry
  cases x with
  | non => cases rx; exact wpAny_isNot_plain rfl (fin_bl I q (by cases k <;> rfl))
  | bl b => cases rx; exact wpAny_isNot_plain rfl (fin_bl I q (by rw [beq_bool] <;> rfl))
  | int b => obtain ⟨t, rfl⟩ := rx; exact wpAny_isNot_plain rfl (fin_bl I q (by cases k <;> rfl))
  | str b => obtain ⟨t, rfl⟩ := rx; exact wpAny_isNot_plain rfl (fin_bl I q (by cases k <;> rfl))
  | ref b => cases rx; exact wpAny_isNot_plain rfl (fin_bl I q (by cases k <;> rfl))
  | _ => cases ho
theorem o_is (A : At g X) : OpB X (compareOp .Is) dIs := by
  refine ⟨_, OpR.or op_isN op_isB, fun x y H Q d e k r1 r2 h q => ?_⟩
  cases e <;> simp only [dIs] at h <;> cases h
  · exact .inl ⟨r2.non, by rw [isNon_of r1]; exact q⟩
  · obtain ⟨o1, o2⟩ := isBl_of r1
    exact .inr ⟨_, r2.bl, o1, by rw [o2]; exact q⟩
theorem o_isnot (A : At g X) : OpB X (compareOp .IsNot) dIsNot := by
  refine ⟨_, OpR.or op_notN op_isNotB, fun x y H Q d e k r1 r2 h q => ?_⟩
  cases e <;> simp only [dIsNot] at h <;> cases h
  · exact .inl ⟨r2.non, by rw [isNon_of r1]; exact q⟩
  · obtain ⟨o1, o2⟩ := isBl_of r1
    exact .inr ⟨_, r2.bl, o1, by rw [o2]; exact q⟩
/-! ### arithmetic -/
def dAdd : D → D → Option S
  | .int a, .int b => some (.v (.int (a + b)))
  | .str a, .str b => if a.length + b.length ≤ 16777216 then some (.v (.str (a ++ b))) else none
  | .tup a, .tup b => if a.length + b.length ≤ 16777216 then some (.v (.tup (a ++ b))) else none
  | .lst a, .lst b => if a.length + b.length ≤ 16777216 then some (.o (.lst (a ++ b))) else none
  | _, _ => none
def rCatL : R2 := fun x y H Q => ∃ l b xs zs, x = .ref l ∧ y = .ref b ∧ L2.Rd H l (.lst xs) ∧ L2.Rd H b (.lst zs) ∧ xs.length + zs.length ≤ sizeLine ∧ ∀ p, H p = none → Q (.ref p) (upd H p (.lst (xs ++ zs)))
theorem lstR {pins : List (Addr × Obj)} {σ : L2.St} {H : Hp} {s : Shared} {l : Addr} {xs : List V} (I : Inv X pins σ H s) (h : L2.Rd H l (.lst xs)) :
    xs.length ≤ sizeLine ∧ ∃ (its : List Value) (n : Nat), Vals xs its ∧ xs.length = its.length ∧ s.heap.get? l = some { cls := .type "list", data := .seq its.toArray n } := by
  obtain ⟨z, its, n, r, e⟩ := h.ok I.hok
  exact ⟨z, its, n, r, r.length, e⟩
theorem op_catL : OpR X (binaryOp .Add) rCatL := by
  intro pins s σ H x y v u Q I rx ry h
  obtain ⟨l, b, xs, zs, rfl, rfl, hH, hB, hz, q⟩ := h
  cases rx
  cases ry
  obtain ⟨z, its, n, r, hl, e⟩ := lstR I hH
  obtain ⟨z2, its2, n2, r2, hl2, e2⟩ := lstR I hB
  refine PySem.P.add_list e e2 ?_ (by rw [List.size_toArray, List.size_toArray]; omega)
  have ea : its.toArray ++ its2.toArray = (its ++ its2).toArray := by simp
  rw [ea]
  exact ⟨.ref _, _, I.lnew (t' := s.toks) (r.append r2) (by rw [List.length_append]; omega), rfl, q _ I.fresh⟩
theorem o_add (A : At g X) : Op2 X (binaryOp .Add) dAdd := by
  refine ⟨_, OpR.or op_add (OpR.or op_add_str (OpR.or op_catA op_catL)), fun x y H Q d e s r1 r2 h q => ?_⟩
  cases d <;> cases e <;> simp only [dAdd] at h <;> try (cases h; done)
  · cases h; exact .inl ⟨_, _, r1.int, r2.int, q _ H (Same.refl H) rfl⟩
  · split at h
    · rename_i hz
      cases h
      exact .inr (.inl ⟨_, _, r1.str, r2.str, line_le hz, q _ H (Same.refl H) rfl⟩)
    · cases h
  · split at h
    · rename_i hz
      cases h
      obtain ⟨a, vs, e1, s1, i1⟩ := r1.tup
      obtain ⟨b, ws, e2, s2, i2⟩ := r2.tup
      refine .inr (.inr (.inl ⟨a, b, vs, ws, e1, e2, s1.seq, s2.seq, line_le (by rw [i1.len, i2.len]; exact hz), fun e => ?_, fun e e' => ?_, fun e e' p hp => ?_⟩))
      · have := i1.none_iff.mp e
        subst this
        exact q _ H (Same.refl H) ⟨b, ws, rfl, s2, i2⟩
      · have := i2.none_iff.mp e'
        subst this
        rw [List.append_nil] at q
        exact q _ H (Same.refl H) ⟨a, vs, rfl, s1, i1⟩
      · exact q _ _ (new_tup (K := X.K) hp) ⟨p, _, rfl, TpT.of upd_same, ImmL.ext (Ext.of_same (new_tup (K := X.K) hp)) _ _ (i1.append i2)⟩
    · cases h
  · split at h
    · rename_i hz
      cases h
      obtain ⟨a, vs, e1, s1, i1⟩ := r1.lstR
      obtain ⟨b, ws, e2, s2, i2⟩ := r2.lstR
      refine .inr (.inr (.inr ⟨a, b, vs, ws, e1, e2, s1, s2, line_le (by rw [i1.len, i2.len]; exact hz), fun p hp => ?_⟩))
      exact q _ _ (new_tup (K := X.K) hp) ⟨p, rfl, hp, _, upd_same, ImmL.ext (Ext.of_same (new_tup (K := X.K) hp)) _ _ (i1.append i2)⟩
    · cases h
def dSub : D → D → Option S
  | .int a, .int b => some (.v (.int (a - b)))
  | _, _ => none
theorem o_sub (A : At g X) : Op2 X (binaryOp .Sub) dSub := by
  refine ⟨_, op_sub, fun x y H Q d e s r1 r2 h q => ?_⟩
  cases d <;> cases e <;> simp only [dSub] at h <;> cases h
  exact ⟨_, _, r1.int, r2.int, q _ H (Same.refl H) rfl⟩
/-- the sizes at which * is served -/
def mulOk (a b : Int) : Prop := a.natAbs < 18446744073709551616 ∨ b.natAbs < 18446744073709551616 ∨ a.natAbs.log2 + b.natAbs.log2 < 1000000
instance (a b : Int) : Decidable (mulOk a b) := by unfold mulOk; infer_instance
def dMul : D → D → Option S
  | .int a, .int b => if mulOk a b then some (.v (.int (a * b))) else none
  | .lst a, .int k => if a.length * k.toNat ≤ 16777216 ∧ -9223372036854775808 ≤ k ∧ k < 9223372036854775808 then some (.o (.lst (List.replicate k.toNat a).flatten)) else none
  | .tup a, .int k => if 0 < a.length ∧ a.length ≤ 1000 ∧ 2 ≤ k ∧ k ≤ 1000 then some (.v (.tup (List.replicate k.toNat a).flatten)) else none
  | _, _ => none
theorem immL_rep {K : PySem.W.Frag} {H : Hp} {ds : List D} {vs : List V} (h : ImmL K H ds vs) : ∀ k : Nat, ImmL K H (List.replicate k ds).flatten (List.replicate k vs).flatten
  | 0 => rfl
  | k + 1 => by
    rw [List.replicate_succ, List.replicate_succ, List.flatten_cons, List.flatten_cons]
    exact h.append (immL_rep h k)
def rRepL : R2 := fun x y H Q => ∃ l k xs, x = .ref l ∧ y = .int k ∧ L2.Rd H l (.lst xs) ∧ -(2 ^ 63) ≤ k ∧ k < 2 ^ 63 ∧ xs.length * k.toNat ≤ sizeLine ∧
  ∀ p, H p = none → Q (.ref p) (upd H p (.lst (List.replicate k.toNat xs).flatten))
end
end PL

namespace PL
open PySem PySem.Spec PyProof.Rows L2
/-! ### dicts -/
def kOf (t : Bool) (d : D) : Option (List Key) := match t with
  | false => (keyD d).map fun k => [k]
  | true => match d with
    | .tup ks => keysD ks
    | _ => none
def gGet (t : Bool) (kvs : List (D × D)) (k : List Key) : Option D := (kvs.find? fun p => decide (kOf t p.1 = some k)).map (·.2)
def gPut (t : Bool) (kvs : List (D × D)) (k : List Key) (kd v : D) : List (D × D) :=
  if (gGet t kvs k).isSome = true then kvs.map (fun p => if kOf t p.1 = some k then (p.1, v) else p) else kvs ++ [(kd, v)]
def ImmO (K : PySem.W.Frag) (H : Hp) : Option D → Option V → Prop
  | none, o => o = none
  | some d, o => ∃ v, o = some v ∧ Imm K H d v
theorem ImmO.some_eq {K : PySem.W.Frag} {H : Hp} : ∀ {d : Option D} {v : Option V}, ImmO K H d v → v.isSome = d.isSome
  | none, _, h => by cases (show _ = _ from h); rfl
  | some d, _, ⟨v, e, _⟩ => by subst e; rfl
section
variable {K : PySem.W.Frag} {H : Hp}
theorem gGet_pos {t : Bool} {p : D × D} {r : List (D × D)} {k : List Key} (e : kOf t p.1 = some k) : gGet t (p :: r) k = some p.2 := by simp [gGet, List.find?_cons, e]
theorem gGet_neg {t : Bool} {p : D × D} {r : List (D × D)} {k : List Key} (e : ¬ kOf t p.1 = some k) : gGet t (p :: r) k = gGet t r k := by simp [gGet, List.find?_cons, e]
theorem kOf_false {d : D} {k : Key} (h : keyD d = some k) : kOf false d = some [k] := by simp [kOf, h]
theorem kOf_false_is {d : D} {ks : List Key} (h : kOf false d = some ks) : ∃ k, keyD d = some k ∧ ks = [k] := by
  unfold kOf at h
  cases e : keyD d with
  | none => rw [e] at h; cases h
  | some k => rw [e] at h; cases h; exact ⟨k, rfl, rfl⟩
theorem kOf_true_is {d : D} {ks : List Key} (h : kOf true d = some ks) : ∃ ds, d = .tup ds ∧ keysD ds = some ks := by
  cases d with
  | tup ds => exact ⟨ds, rfl, h⟩
  | _ => cases h
theorem immK_val : ∀ {kvs : List (D × D)} {kws : List (Key × V)} (k : Key), ImmK K H kvs kws → ImmO K H (gGet false kvs [k]) (valV kws k)
  | [], _, k, h => by cases (show _ = _ from h); exact rfl
  | (kd, d) :: ds, _, k, ⟨kk, v, r, e, h0, h1, h2⟩ => by
    subst e
    by_cases hk : kk = k
    · subst hk
      rw [gGet_pos (kOf_false h0), valV_pos rfl]
      exact ⟨v, rfl, h1⟩
    · rw [gGet_neg (by rw [kOf_false h0]; simpa using hk), valV_neg hk]
      exact immK_val k h2
theorem immK_map {d : D} {v : V} : ∀ {kvs : List (D × D)} {kws : List (Key × V)} (k : Key), ImmK K H kvs kws → Imm K H d v →
    ImmK K H (kvs.map fun p => if kOf false p.1 = some [k] then (p.1, d) else p) (kws.map fun kv => if kv.1 = k then (kv.1, v) else kv)
  | [], _, k, h, im => by cases (show _ = _ from h); exact rfl
  | (kd, d') :: ds, _, k, ⟨kk, v', r, e, h0, h1, h2⟩, im => by
    subst e
    have ih := immK_map k h2 im
    by_cases hk : kk = k
    · subst hk
      rw [List.map_cons, List.map_cons, if_pos (kOf_false h0), if_pos rfl]
      exact ⟨kk, v, _, rfl, h0, im, ih⟩
    · rw [List.map_cons, List.map_cons, if_neg (by rw [kOf_false h0]; simpa using hk), if_neg hk]
      exact ⟨kk, v', _, rfl, h0, h1, ih⟩
theorem immK_snoc {kd d : D} {v : V} {k : Key} (hk : keyD kd = some k) (im : Imm K H d v) : ∀ {kvs : List (D × D)} {kws : List (Key × V)}, ImmK K H kvs kws → ImmK K H (kvs ++ [(kd, d)]) (kws ++ [(k, v)])
  | [], _, h => by cases (show _ = _ from h); exact ⟨k, v, [], rfl, hk, im, rfl⟩
  | (kd', d') :: ds, _, ⟨kk, v', r, e, h0, h1, h2⟩ => by
    subst e
    exact ⟨kk, v', _, rfl, h0, h1, immK_snoc hk im h2⟩
theorem immK_put {kd d : D} {v : V} {k : Key} {kvs : List (D × D)} {kws : List (Key × V)} (hk : keyD kd = some k) (im : Imm K H d v) (h : ImmK K H kvs kws) : ImmK K H (gPut false kvs [k] kd d) (putK kws k v) := by
  unfold gPut putK
  have e := (immK_val k h).some_eq
  rw [valV_any, e]
  split
  · exact immK_map k h im
  · exact immK_snoc hk im h
theorem immK_length : ∀ {ds : List (D × D)} {vs : List (Key × V)}, ImmK K H ds vs → vs.length = ds.length
  | [], _, h => by cases (show _ = _ from h); rfl
  | (_, d) :: ds, _, ⟨_, v, r, e1, _, h1, h2⟩ => by rw [e1, List.length_cons, List.length_cons, immK_length h2]
/-! with tuples as keys -/
theorem immT_key : ∀ {p : D × D} {r : List (D × D)} {kws : List (List Key × V)}, ImmT K H (p :: r) kws → ∃ ks kk v r', p.1 = .tup ks ∧ kws = (kk, v) :: r' ∧ keysD ks = some kk ∧ Imm K H p.2 v ∧ ImmT K H r r'
  | (kd, d), r, kws, h => by
    cases kd with
    | tup ks => obtain ⟨kk, v, r', e, h0, h1, h2⟩ := h; exact ⟨ks, kk, v, r', rfl, e, h0, h1, h2⟩
    | _ => exact h.elim
theorem immT_mk {kd : D} {ks : List D} {kk : List Key} {d : D} {v : V} {r : List (D × D)} {r' : List (List Key × V)} (e : kd = .tup ks) (h0 : keysD ks = some kk) (h1 : Imm K H d v) (h2 : ImmT K H r r') : ImmT K H ((kd, d) :: r) ((kk, v) :: r') := by
  subst e
  exact ⟨kk, v, r', rfl, h0, h1, h2⟩
theorem kOf_true {kd : D} {ds : List D} {k : List Key} (e : kd = .tup ds) (h : keysD ds = some k) : kOf true kd = some k := by subst e; exact h
theorem immT_val : ∀ {kvs : List (D × D)} {kws : List (List Key × V)} (k : List Key), ImmT K H kvs kws → ImmO K H (gGet true kvs k) (valV kws k)
  | [], _, k, h => by cases (show _ = _ from h); exact rfl
  | (kd, d) :: ds, _, k, h => by
    obtain ⟨ks, kk, v, r', e0, e, h0, h1, h2⟩ := immT_key h
    subst e
    by_cases hk : kk = k
    · subst hk
      rw [gGet_pos (kOf_true e0 h0), valV_pos rfl]
      exact ⟨v, rfl, h1⟩
    · rw [gGet_neg (by rw [kOf_true e0 h0]; simpa using hk), valV_neg hk]
      exact immT_val k h2
theorem immT_map {d : D} {v : V} : ∀ {kvs : List (D × D)} {kws : List (List Key × V)} (k : List Key), ImmT K H kvs kws → Imm K H d v →
    ImmT K H (kvs.map fun p => if kOf true p.1 = some k then (p.1, d) else p) (kws.map fun kv => if kv.1 = k then (kv.1, v) else kv)
  | [], _, k, h, im => by cases (show _ = _ from h); exact rfl
  | (kd, d') :: ds, _, k, h, im => by
    obtain ⟨ks, kk, v', r', e0, e, h0, h1, h2⟩ := immT_key h
    subst e
    have ih := immT_map k h2 im
    by_cases hk : kk = k
    · subst hk
      rw [List.map_cons, List.map_cons, if_pos (kOf_true e0 h0), if_pos rfl]
      exact immT_mk e0 h0 im ih
    · rw [List.map_cons, List.map_cons, if_neg (by rw [kOf_true e0 h0]; simpa using hk), if_neg hk]
      exact immT_mk e0 h0 h1 ih
theorem immT_snoc {ks : List D} {d : D} {v : V} {k : List Key} (hk : keysD ks = some k) (im : Imm K H d v) : ∀ {kvs : List (D × D)} {kws : List (List Key × V)}, ImmT K H kvs kws → ImmT K H (kvs ++ [(.tup ks, d)]) (kws ++ [(k, v)])
  | [], _, h => by cases (show _ = _ from h); exact ⟨k, v, [], rfl, hk, im, rfl⟩
  | (kd', d') :: ds, _, h => by
    obtain ⟨ks', kk, v', r', e0, e, h0, h1, h2⟩ := immT_key h
    subst e
    exact immT_mk e0 h0 h1 (immT_snoc hk im h2)
theorem immT_put {ks : List D} {d : D} {v : V} {k : List Key} {kvs : List (D × D)} {kws : List (List Key × V)} (hk : keysD ks = some k) (im : Imm K H d v) (h : ImmT K H kvs kws) : ImmT K H (gPut true kvs k (.tup ks) d) (putK kws k v) := by
  unfold gPut putK
  have e := (immT_val k h).some_eq
  rw [valV_any, e]
  split
  · exact immT_map k h im
  · exact immT_snoc hk im h
theorem immT_length : ∀ {ds : List (D × D)} {vs : List (List Key × V)}, ImmT K H ds vs → vs.length = ds.length
  | [], _, h => by cases (show _ = _ from h); rfl
  | (kd, d) :: ds, _, h => by
    obtain ⟨ks', kk, v', r', e0, e, h0, h1, h2⟩ := immT_key h
    rw [e, List.length_cons, List.length_cons, immT_length h2]
/-! ### the kit's readings and writings -/
theorem rd_key {kd : D} {y : V} {k : Key} (r : Rd K H kd y) (h : keyD kd = some k) : y = kV k := by
  cases kd <;> cases h
  · exact r.int
  · exact r.str
theorem immL_key : ∀ {ks : List D} {k : List Key} {vs : List V}, ImmL K H ks vs → keysD ks = some k → vs = k.map kV
  | [], k, vs, im, h => by cases h; exact im
  | d :: ds, k, vs, ⟨v, r, e, h1, h2⟩, h => by
    unfold keysD at h
    cases h3 : keyD d with
    | none => rw [h3] at h; cases h
    | some kk =>
      rw [h3] at h
      cases h4 : keysD ds with
      | none => rw [h4] at h; cases h
      | some ks' =>
        rw [h4] at h
        cases h
        rw [e, List.map_cons, rd_key (.inl h1) h3, immL_key h2 h4]
theorem dget_of {t : Bool} {kvs : List (D × D)} {x y : V} {kd : D} {k : List Key} (r1 : Rd K H (.dic t kvs) x) (r2 : Rd K H kd y) (h : kOf t kd = some k) : ∃ a o, x = .ref a ∧ DGet H a y o ∧ ImmO K H (gGet t kvs k) o := by
  cases t with
  | false =>
    obtain ⟨a, kws, e, h1, h2⟩ := r1.dicK
    obtain ⟨kk, h3, rfl⟩ := kOf_false_is h
    exact ⟨a, _, e, .inl ⟨kws, kk, h1, rd_key r2 h3, rfl⟩, immK_val kk h2⟩
  | true =>
    obtain ⟨a, kws, e, h1, h2⟩ := r1.dicT
    obtain ⟨ds, rfl, h3⟩ := kOf_true_is h
    obtain ⟨b, vs, e2, h4, h5⟩ := r2.tup
    refine ⟨a, _, e, .inr ⟨kws, k, b, h1, e2, ?_, rfl⟩, immT_val k h2⟩
    rw [← immL_key h5 h3]
    exact h4
theorem mut_ext {H H' : Hp} {a : Addr} {u : HO} (hu : H a = some u) (mu : Mut (some u)) (e : ∀ b, b ≠ a → H' b = H b) : Ext H H' := fun b ob hb => by
  by_cases hba : b = a
  · subst hba
    rw [hu] at hb; cases hb
    exact ⟨fun xs e => by subst e; exact mu.elim, fun _ _ e => by subst e; exact mu.elim⟩
  · exact ⟨fun _ _ => by rw [e b hba]; exact hb, fun _ _ _ => by rw [e b hba]; exact hb⟩
theorem dput_of {t : Bool} {kvs : List (D × D)} {a : Addr} {y v : V} {kd d : D} {k : List Key} (o : OwnAt K H a (.dic t kvs)) (r2 : Rd K H kd y) (h : kOf t kd = some k) (im : Imm K H d v) (hl : kvs.length < 16777216) :
    ∃ H', DPut H a y v H' ∧ Ext H H' ∧ (∀ b, b ≠ a → H' b = H b) ∧ OwnAt K H' a (.dic t (gPut t kvs k kd d)) := by
  cases t with
  | false =>
    obtain ⟨kws, h1, h2⟩ := o
    obtain ⟨kk, h3, rfl⟩ := kOf_false_is h
    have x : Ext H (upd H a (.dK (putK kws kk v))) := mut_ext h1 True.intro fun b hb => upd_ne hb
    refine ⟨_, .inl ⟨kws, kk, h1, rd_key r2 h3, ?_, rfl⟩, x, fun b hb => upd_ne hb, _, upd_same, ImmK.ext x _ _ (immK_put h3 im h2)⟩
    rw [immK_length h2, sizeLine_eq]; exact hl
  | true =>
    obtain ⟨kws, h1, h2⟩ := o
    obtain ⟨ds, rfl, h3⟩ := kOf_true_is h
    obtain ⟨b, vs, e2, h4, h5⟩ := r2.tup
    have x : Ext H (upd H a (.dT (putK kws k v))) := mut_ext h1 True.intro fun b hb => upd_ne hb
    refine ⟨_, .inr ⟨kws, k, b, h1, e2, ?_, ?_, rfl⟩, x, fun b hb => upd_ne hb, _, upd_same, ImmT.ext x _ _ (immT_put h3 im h2)⟩
    · rw [← immL_key h5 h3]; exact h4
    · rw [immT_length h2, sizeLine_eq]; exact hl
theorem isD_of {t : Bool} {kvs : List (D × D)} {x : V} (r1 : Rd K H (.dic t kvs) x) : ∃ a, x = .ref a ∧ IsD H a := by
  cases t with
  | false => obtain ⟨a, kws, e, h1, h2⟩ := r1.dicK; exact ⟨a, e, .inl ⟨kws, h1⟩⟩
  | true => obtain ⟨a, kws, e, h1, h2⟩ := r1.dicT; exact ⟨a, e, .inr ⟨kws, h1⟩⟩
end
end PL

namespace PL
open PySem PySem.Spec PyProof.Rows L2
section
variable {g : Cf} {X : Cx}
theorem op_repL : OpR X (binaryOp .Mult) rRepL := by
  intro pins s σ H x y v u Q I rx ry h
  obtain ⟨l, k, xs, rfl, rfl, hH, h1, h2, hz, q⟩ := h
  cases rx
  obtain ⟨t, rfl⟩ := ry
  obtain ⟨z, its, n, r, hl, e⟩ := lstR I hH
  have hlen : its.toArray.size * k.toNat ≤ sizeLine := by rw [List.size_toArray, ← hl]; exact hz
  have hcap : ¬ its.toArray.size * k.toNat > (2 ^ 63 - 1) / 8 := by
    have : (sizeLine : Nat) ≤ (2 ^ 63 - 1) / 8 := by decide
    omega
  have hfit : ¬ (!Builtin.List.listFitsIndex k) = true := by
    rw [fitsIndex_both h1 h2]
    exact Bool.false_ne_true
  have hlong : ¬ Builtin.List.listTooLong (its.toArray.size * k.toNat) = true := by
    rw [notLongL hlen]
    exact Bool.false_ne_true
  have hnew : List.foldl (fun x1 x2 => x1 ++ x2) #[] (List.replicate (if its.toArray.isEmpty = true then 0 else k.toNat) its.toArray) = (List.replicate k.toNat its).flatten.toArray := by
    have f0 : ∀ m : Nat, List.foldl (fun x1 x2 => x1 ++ x2) #[] (List.replicate m its.toArray) = (List.replicate m its).flatten.toArray := fun m => by
      have := foldl_rep its m []
      rw [List.nil_append] at this
      exact this
    rw [f0]
    cases its with
    | nil => simp
    | cons a r' => rw [if_neg (by simp)]
  refine wpAny_binaryOp_repeat_ref (T := "list") (U := "int") (by decide) ⟨_, e, rfl⟩ (fun s' => typeIs_int s' k t) noFill_list_mul F.fills_int_mul F.slot_int_rmul repeat_list F.slot_int_index.lookup
    (call_meets F.slot_int_rmul (typeIs_int s k t) F.entry_int_rmul (F.args_int_rmul_2 _ _) (int___rmul___int_list k t l its.toArray n)
      ⟨e, rfl, ⟨_, e, rfl⟩, call_meets F.slot_list_mul ⟨_, e, rfl⟩ F.entry_list_mul (F.args_list_mul_2 _ _) (AutoListH.list___mul___list_int_3 l its.toArray n k t hfit hcap hlong) ⟨e, ?_⟩⟩)
  rw [hnew]
  exact ⟨.ref _, _, I.lnew (t' := s.toks) (r.rep k.toNat) (by rw [PyProof.Rows.lm_len_rep_flat, Nat.mul_comm]; exact hz), rfl, q _ I.fresh⟩
theorem mulOk.cm {i j : Int} (h : mulOk i j) : CMul i j ∨ CMulW i j := by
  rcases h with h | h | h
  · exact .inl (.inl ⟨by omega, by omega⟩)
  · exact .inl (.inr ⟨by omega, by omega⟩)
  · exact .inr h
theorem o_mul (A : At g X) : Op2 X (binaryOp .Mult) dMul := by
  refine ⟨_, OpR.or op_mul (OpR.or op_mulW (OpR.or op_repL op_repT)), fun x y H Q d e s r1 r2 h q => ?_⟩
  cases d <;> cases e <;> simp only [dMul] at h <;> try (cases h; done)
  · split at h
    · rename_i hz
      cases h
      rcases hz.cm with hc | hc
      · exact .inl ⟨_, _, r1.int, r2.int, hc, q _ H (Same.refl H) rfl⟩
      · exact .inr (.inl ⟨_, _, r1.int, r2.int, hc, q _ H (Same.refl H) rfl⟩)
    · cases h
  · split at h
    · rename_i hz
      cases h
      obtain ⟨a, vs, e1, s1, i1⟩ := r1.tup
      refine .inr (.inr (.inr ⟨a, _, vs, e1, r2.int, s1.seq, fun e => ?_, hz.2.2.1, hz.2.2.2, by rw [i1.len]; exact hz.2.1, fun p hp => ?_⟩))
      · have := i1.none_iff.mp e
        subst this
        exact absurd hz.1 (by simp)
      · exact q _ _ (new_tup (K := X.K) hp) ⟨p, _, rfl, TpT.of upd_same, ImmL.ext (Ext.of_same (new_tup (K := X.K) hp)) _ _ (immL_rep i1 _)⟩
    · cases h
  · split at h
    · rename_i hz
      cases h
      obtain ⟨a, vs, e1, s1, i1⟩ := r1.lstR
      refine .inr (.inr (.inl ⟨a, _, vs, e1, r2.int, s1, hz.2.1, hz.2.2, line_le (by rw [i1.len]; exact hz.1), fun p hp => ?_⟩))
      exact q _ _ (new_tup (K := X.K) hp) ⟨p, rfl, hp, _, upd_same, ImmL.ext (Ext.of_same (new_tup (K := X.K) hp)) _ _ (immL_rep i1 _)⟩
    · cases h
def dDiv : D → D → Option S
  | .int a, .int b => if 0 < b ∧ b.natAbs.log2 < 9000 then some (.v (.int (a / b))) else if b ≠ 0 ∧ b.natAbs < 1073741824 then some (.v (.int (a.fdiv b))) else none
  | _, _ => none
theorem o_div (A : At g X) : Op2 X (binaryOp .FloorDiv) dDiv := by
  refine ⟨_, OpR.or op_fdivW op_fdivN, fun x y H Q d e s r1 r2 h q => ?_⟩
  cases d <;> cases e <;> simp only [dDiv] at h <;> try (cases h; done)
  split at h
  · rename_i hz
    cases h
    exact .inl ⟨_, _, r1.int, r2.int, hz, q _ H (Same.refl H) rfl⟩
  · split at h
    · rename_i hz
      cases h
      exact .inr ⟨_, _, r1.int, r2.int, hz, q _ H (Same.refl H) rfl⟩
    · cases h
def dMod : D → D → Option S
  | .int a, .int b => if 0 < b then some (.v (.int (a % b))) else if b ≠ 0 then some (.v (.int (a.fmod b))) else none
  | _, _ => none
theorem o_mod (A : At g X) : Op2 X (binaryOp .Mod) dMod := by
  refine ⟨_, OpR.or op_mod op_modN, fun x y H Q d e s r1 r2 h q => ?_⟩
  cases d <;> cases e <;> simp only [dMod] at h <;> try (cases h; done)
  split at h
  · rename_i hz
    cases h
    exact .inl ⟨_, _, r1.int, r2.int, hz, q _ H (Same.refl H) rfl⟩
  · split at h
    · rename_i hz
      cases h
      exact .inr ⟨_, _, r1.int, r2.int, hz, q _ H (Same.refl H) rfl⟩
    · cases h
def dPow : D → D → Option S
  | .int a, .int b => if 0 ≤ b ∧ b ≤ 1000000 ∧ a.natAbs < 18446744073709551616 then some (.v (.int (a ^ b.toNat))) else none
  | _, _ => none
theorem o_pow (A : At g X) : Op2 X (binaryOp .Pow) dPow := by
  refine ⟨_, op_pow, fun x y H Q d e s r1 r2 h q => ?_⟩
  cases d <;> cases e <;> simp only [dPow] at h <;> try (cases h; done)
  split at h
  · rename_i hz
    cases h
    exact ⟨_, _, r1.int, r2.int, hz, q _ H (Same.refl H) rfl⟩
  · cases h
def dShl : D → D → Option S
  | .int a, .int b => if 0 ≤ b ∧ b ≤ 1000000 ∧ a.natAbs < 18446744073709551616 then some (.v (.int (a * 2 ^ b.toNat))) else none
  | _, _ => none
theorem o_shl (A : At g X) : Op2 X (binaryOp .LShift) dShl := by
  refine ⟨_, op_shl, fun x y H Q d e s r1 r2 h q => ?_⟩
  cases d <;> cases e <;> simp only [dShl] at h <;> try (cases h; done)
  split at h
  · rename_i hz
    cases h
    exact ⟨_, _, r1.int, r2.int, hz, q _ H (Same.refl H) rfl⟩
  · cases h
def dShr : D → D → Option S
  | .int a, .int b => if 0 ≤ b then some (.v (.int (a / 2 ^ b.toNat))) else none
  | _, _ => none
theorem o_shr (A : At g X) : Op2 X (binaryOp .RShift) dShr := by
  refine ⟨_, op_shr, fun x y H Q d e s r1 r2 h q => ?_⟩
  cases d <;> cases e <;> simp only [dShr] at h <;> try (cases h; done)
  split at h
  · rename_i hz
    cases h
    exact ⟨_, _, r1.int, r2.int, hz, q _ H (Same.refl H) rfl⟩
  · cases h
def dBand : D → D → Option S
  | .int a, .int b => some (.v (.int (Builtin.bitAnd a b)))
  | _, _ => none
theorem o_band (A : At g X) : Op2 X (binaryOp .BitAnd) dBand := by
  refine ⟨_, op_and, fun x y H Q d e s r1 r2 h q => ?_⟩
  cases d <;> cases e <;> simp only [dBand] at h <;> cases h
  exact ⟨_, _, r1.int, r2.int, q _ H (Same.refl H) rfl⟩
def dBor : D → D → Option S
  | .int a, .int b => some (.v (.int (Builtin.bitOr a b)))
  | _, _ => none
theorem o_bor (A : At g X) : Op2 X (binaryOp .BitOr) dBor := by
  refine ⟨_, op_or, fun x y H Q d e s r1 r2 h q => ?_⟩
  cases d <;> cases e <;> simp only [dBor] at h <;> cases h
  exact ⟨_, _, r1.int, r2.int, q _ H (Same.refl H) rfl⟩
def dBxor : D → D → Option S
  | .int a, .int b => some (.v (.int (Builtin.bitXor a b)))
  | _, _ => none
theorem o_bxor (A : At g X) : Op2 X (binaryOp .BitXor) dBxor := by
  refine ⟨_, op_xor, fun x y H Q d e s r1 r2 h q => ?_⟩
  cases d <;> cases e <;> simp only [dBxor] at h <;> cases h
  exact ⟨_, _, r1.int, r2.int, q _ H (Same.refl H) rfl⟩
def dNeg : D → Option S
  | .int a => some (.v (.int (-a)))
  | _ => none
theorem o_neg (A : At g X) : ∃ r, UnR X (unaryOp .USub) r ∧ Un1 X r dNeg := by
  refine ⟨_, un_neg, fun x H Q d s r1 h q => ?_⟩
  cases d <;> simp only [dNeg] at h <;> cases h
  exact ⟨_, r1.int, q _ H (Same.refl H) rfl⟩
/-! ### in -/
def keyOf : D → Option (Sum Key (List Key))
  | .int i => some (.inl (.inl i))
  | .str x => some (.inl (.inr x))
  | .tup ds => (keysD ds).map .inr
  | _ => none
/-- the value at a key -/
def dicGet (kvs : List (D × D)) (k : D) : Option D := (kvs.find? fun kv => eqD kv.1 k).map (·.2)
def strIn (a b : Str) : Bool := !(Builtin.Str.occurrences b a 0 b.length 1).isEmpty
def inL (d : D) (es : List D) : Option Bool := if shp d = true ∧ PyData.canLayAll0 (toPyL es) = true then some (es.any fun e => eqD e d) else none
def dIn : D → D → Option Bool
  | .str a, .str b => some (strIn a b)
  | d, .tup es => inL d es
  | d, .lst es => inL d es
  | d, .ktp es => inL d es
  | d, .dic t kvs => (kOf t d).map fun k => (gGet t kvs k).isSome
  | _, _ => none
def dNotIn (d e : D) : Option Bool := (dIn d e).map (!·)
theorem any_toPyL (d : D) : ∀ es : List D, ((toPyL es).any fun y => PyData.eqv y (toPy d)) = es.any fun e => eqD e d
  | [] => rfl
  | e :: es => by
    show (PyData.eqv (toPy e) (toPy d) || (toPyL es).any fun y => PyData.eqv y (toPy d)) = _
    rw [any_toPyL d es]; rfl
def rInS (K : PySem.W.Frag) (neg : Bool) : R2 := fun x y H Q => ∃ d ds, Dp K H x d ∧ (Dp K H y (.list ds) ∨ Dp K H y (.tuple ds)) ∧ SeqAt.shaped d = true ∧ PyData.canLayAll0 ds = true ∧ Q (.bl (if neg then !(ds.any fun z => PyData.eqv z d) else ds.any fun z => PyData.eqv z d)) H
theorem room_in {d : PyData} {ds : List PyData} (h : SeqAt.shaped d = true) (A : At g X) : X.A.units + 1 + min (PyData.depthAll ds) d.depth < cLine := by
  have h1 := SeqAt.depth_of_shaped h
  have h2 := Nat.min_le_right (PyData.depthAll ds) d.depth
  have h3 := A.room.un
  omega
theorem op_inS (A : At g X) : OpR X (compareOp .In) (rInS X.K false) := by
  intro pins s σ H x y v u Q I rx ry h
  obtain ⟨d, ds, hd, he, sd, se, q⟩ := h
  obtain ⟨as, r1⟩ := Dp.reads I d x v hd rx
  rcases he with he | he
  · obtain ⟨bs, r2⟩ := Dp.reads I (.list ds) y u he ry
    exact SeqAt.in_list_reads r2 r1 se (SeqAt.canLay_of_shaped sd) (room_in sd A) ⟨.bl _, H, I, rfl, q⟩
  · obtain ⟨bs, r2⟩ := Dp.reads I (.tuple ds) y u he ry
    exact SeqAt.in_tuple_reads r2 r1 se (SeqAt.canLay_of_shaped sd) (room_in sd A) ⟨.bl _, H, I, rfl, q⟩
theorem op_notInS (A : At g X) : OpR X (compareOp .NotIn) (rInS X.K true) := by
  intro pins s σ H x y v u Q I rx ry h
  obtain ⟨d, ds, hd, he, sd, se, q⟩ := h
  obtain ⟨as, r1⟩ := Dp.reads I d x v hd rx
  rcases he with he | he
  · obtain ⟨bs, r2⟩ := Dp.reads I (.list ds) y u he ry
    exact SeqAt.notIn_list_reads r2 r1 se (SeqAt.canLay_of_shaped sd) (room_in sd A) ⟨.bl _, H, I, rfl, q⟩
  · obtain ⟨bs, r2⟩ := Dp.reads I (.tuple ds) y u he ry
    exact SeqAt.notIn_tuple_reads r2 r1 se (SeqAt.canLay_of_shaped sd) (room_in sd A) ⟨.bl _, H, I, rfl, q⟩
def rInDc : R2 := fun y x H Q => ∃ a o, x = .ref a ∧ DGet H a y o ∧ Q (.bl o.isSome) H
def rNotInDc : R2 := fun y x H Q => ∃ a o, x = .ref a ∧ DGet H a y o ∧ Q (.bl (!o.isSome)) H
theorem op_inDc (A : At g X) : OpR X (compareOp .In) rInDc := by
  intro pins s σ H y x u v Q I ry rx h
  obtain ⟨a, o, ex, g1, q⟩ := h
  subst ex
  obtain rfl : v = Value.ref a := rx
  exact d_in (by have := A.room.un; omega) I g1 ry fun s3 I3 => ⟨.bl o.isSome, H, I3, rfl, q⟩
theorem op_notInDc (A : At g X) : OpR X (compareOp .NotIn) rNotInDc := by
  intro pins s σ H y x u v Q I ry rx h
  obtain ⟨a, o, ex, g1, q⟩ := h
  subst ex
  obtain rfl : v = Value.ref a := rx
  exact d_notIn (by have := A.room.un; omega) I g1 ry fun s3 I3 => ⟨.bl (!o.isSome), H, I3, rfl, q⟩
theorem inDc_of {K : PySem.W.Frag} {H : Hp} {d : D} {t : Bool} {kvs : List (D × D)} {x y : V} {k : Bool} (r1 : Rd K H d x) (r2 : Rd K H (.dic t kvs) y) (h : ((kOf t d).map fun k => (gGet t kvs k).isSome) = some k) :
    ∃ a o, y = .ref a ∧ DGet H a x o ∧ o.isSome = k := by
  cases e : kOf t d with
  | none => rw [e] at h; cases h
  | some kk =>
    rw [e] at h
    cases h
    obtain ⟨a, o, h1, h2, h3⟩ := dget_of r2 r1 e
    exact ⟨a, o, h1, h2, h3.some_eq⟩
theorem inS_of {K : PySem.W.Frag} {H : Hp} {d e : D} {x y : V} {es : List D} {k : Bool} (he : e = .tup es ∨ e = .lst es ∨ e = .ktp es) (r1 : Rd K H d x) (r2 : Rd K H e y) (h : inL d es = some k) :
    ∃ dd ds, Dp K H x dd ∧ (Dp K H y (.list ds) ∨ Dp K H y (.tuple ds)) ∧ SeqAt.shaped dd = true ∧ PyData.canLayAll0 ds = true ∧ (ds.any fun z => PyData.eqv z dd) = k := by
  unfold inL at h
  split at h
  · rename_i hz
    cases h
    refine ⟨toPy d, toPyL es, dp_rd r1 (lay_of_shp hz.1), ?_, hz.1, hz.2, any_toPyL d es⟩
    rcases he with rfl | rfl | rfl
    · exact .inr (dp_rd r2 (by simpa [toPy, PyData.canLay0] using hz.2))
    · exact .inl (dp_rd r2 (by simpa [toPy, PyData.canLay0] using hz.2))
    · exact .inr (dp_rd r2 (by simpa [toPy, PyData.canLay0] using hz.2))
  · cases h
def rInD2 (neg : Bool) : R2 := fun y x H Q => ∃ a o, x = .ref a ∧ DGet H a y o ∧ Q (.bl (if neg then !o.isSome else o.isSome)) H
theorem op_inDic (A : At g X) : OpR X (compareOp .In) (rInD2 false) := by
  intro pins s σ H y x iv u Q I ry rx h
  obtain ⟨a, o, ex, hg, q⟩ := h
  subst ex
  obtain rfl : u = Value.ref a := rx
  exact d_in (by have := A.room.un; omega) I hg ry fun s3 I3 => ⟨.bl o.isSome, H, I3, rfl, q⟩
theorem op_notInDic (A : At g X) : OpR X (compareOp .NotIn) (rInD2 true) := by
  intro pins s σ H y x iv u Q I ry rx h
  obtain ⟨a, o, ex, hg, q⟩ := h
  subst ex
  obtain rfl : u = Value.ref a := rx
  exact d_notIn (by have := A.room.un; omega) I hg ry fun s3 I3 => ⟨.bl (!o.isSome), H, I3, rfl, q⟩
theorem o_in (A : At g X) : OpB X (compareOp .In) dIn := by
  refine ⟨_, OpR.or op_in_str (OpR.or (op_inS A) (op_inDc A)), fun x y H Q d e k r1 r2 h q => ?_⟩
  have key : ∀ es, (e = .tup es ∨ e = .lst es ∨ e = .ktp es) → inL d es = some k → rInS X.K false x y H Q := fun es he hk => by
    obtain ⟨dd, ds, h1, h2, h3, h4, h5⟩ := inS_of he r1 r2 hk
    exact ⟨dd, ds, h1, h2, h3, h4, by rw [h5]; exact q⟩
  cases e with
  | tup es => exact .inr (.inl (key es (.inl rfl) (by cases d <;> exact h)))
  | lst es => exact .inr (.inl (key es (.inr (.inl rfl)) (by cases d <;> exact h)))
  | ktp es => exact .inr (.inl (key es (.inr (.inr rfl)) (by cases d <;> exact h)))
  | dic t kvs =>
    obtain ⟨a, o, h1, h2, h3⟩ := inDc_of r1 r2 (k := k) (by cases d <;> exact h)
    exact .inr (.inr ⟨a, o, h1, h2, by rw [h3]; exact q⟩)
  | str b =>
    cases d with
    | str a => cases h; exact .inl ⟨_, _, r1.str, r2.str, q⟩
    | _ => cases h
  | _ => cases d <;> cases h
theorem o_notin (A : At g X) : OpB X (compareOp .NotIn) dNotIn := by
  refine ⟨_, OpR.or op_notin_str (OpR.or (op_notInS A) (op_notInDc A)), fun x y H Q d e k r1 r2 h q => ?_⟩
  unfold dNotIn at h
  have key : ∀ es, (e = .tup es ∨ e = .lst es ∨ e = .ktp es) → (inL d es).map (!·) = some k → rInS X.K true x y H Q := fun es he hk => by
    cases hi : inL d es with
    | none => rw [hi] at hk; cases hk
    | some k' =>
      rw [hi] at hk
      cases hk
      obtain ⟨dd, ds, h1, h2, h3, h4, h5⟩ := inS_of he r1 r2 hi
      exact ⟨dd, ds, h1, h2, h3, h4, by rw [h5]; exact q⟩
  cases e with
  | tup es => exact .inr (.inl (key es (.inl rfl) (by cases d <;> exact h)))
  | lst es => exact .inr (.inl (key es (.inr (.inl rfl)) (by cases d <;> exact h)))
  | ktp es => exact .inr (.inl (key es (.inr (.inr rfl)) (by cases d <;> exact h)))
  | dic t kvs =>
    cases hi : (kOf t d).map fun k => (gGet t kvs k).isSome with
    | none => exfalso; cases d <;> (simp only [dIn] at h; rw [hi] at h; cases h)
    | some k' =>
      obtain ⟨a, o, h1, h2, h3⟩ := inDc_of r1 r2 hi
      have e : k = !k' := by cases d <;> (simp only [dIn] at h; rw [hi] at h; cases h; rfl)
      exact .inr (.inr ⟨a, o, h1, h2, by rw [h3, ← e]; exact q⟩)
  | str b =>
    cases d with
    | str a => cases h; exact .inl ⟨_, _, r1.str, r2.str, q⟩
    | _ => cases h
  | _ => cases d <;> cases h
end
end PL

namespace PL
open PySem PySem.Spec PyProof.Rows L2
/-! ### subscripts -/
theorem immL_atI {K : PySem.W.Frag} {H : Hp} {ds : List D} {vs : List V} {i : Int} {d : D} (h : ImmL K H ds vs) (e : atI ds i = some d) : ∃ v, atI vs i = some v ∧ Imm K H d v := by
  unfold atI at e ⊢
  rw [h.len]
  cases hi : ixN ds.length i with
  | none => rw [hi] at e; cases e
  | some j =>
    rw [hi] at e
    exact h.get' e
def dIxS : D → D → Option S
  | .tup ds, .int i => (atI ds i).map .v
  | .lst ds, .int i => (atI ds i).map .v
  | .scr ns, .int i => (atI ns i).map fun n => .v (.int n)
  | .ktp ds, .int i => (atI ds i).map .v
  | .str z, .int i => if z.length ≤ 16777216 then (atI z.cps.toList i).map fun c => .v (.str ⟨#[c]⟩) else none
  | _, _ => none
def dIx : D → D → Option S
  | .dic t kvs, d => (kOf t d).bind fun k => (gGet t kvs k).map .v
  | d1, d2 => dIxS d1 d2
theorem atI_map {α β : Type} (f : α → β) (xs : List α) (i : Int) : atI (xs.map f) i = (atI xs i).map f := by
  unfold atI
  rw [List.length_map]
  cases ixN xs.length i with
  | none => rfl
  | some j => simp
def rIxDc : R2 := fun x y H Q => ∃ a v, x = .ref a ∧ DGet H a y (some v) ∧ Q v H
theorem ix_dc {X : Cx} (hu : X.A.units + 1 < cLine) : IxR X rIxDc := by
  intro value slice pins s σ H x y v u Q I rx ry h hs
  obtain ⟨a, z, ex, g1, q⟩ := h
  subst ex
  obtain rfl : v = Value.ref a := rx
  have hT := dict_typeIs I g1
  have h2 := d_getItem hu I g1 ry (Q := EP X pins σ Q) (E := X.xe) fun w' s3 I3 rw' => ⟨z, H, I3, rw', q⟩
  unfold subscriptTail
  refine wpAny_bind ?_
  rw [getitemInPython_of_ne hT.not_modules]
  refine wpAny_bind (wpAny_specialOf hT PySem.F.slot_dict_getitem.lookup ?_)
  have fin : wpAny (model X.prog X.w) X.A (subscripted slice false (.ref a) u) (fun r s₃ => wpAny (model X.prog X.w) X.A (letTemporaryGo value (.ref a) r >>= fun _ => pure r) (EP X pins σ Q) X.xe s₃) X.xe s := by
    rw [hs]
    exact wpAny_operating (wpAny_mono h2 (fun r s₃ h₃ => wpAny_bind (wpAny_letTemporaryGo (wpAny_pure h₃))) fun _ _ x => x)
  first
    | exact wpAny_pure (wpAny_bind fin)
    | exact wpAny_bind (wpAny_pure (wpAny_bind fin))
    | exact wpAny_bind fin
def rIxA (K : PySem.W.Frag) : R2 := fun x y H Q => rIx K x y H Q ∨ rIxDc x y H Q
section
variable {g : Cf} {X : Cx} {e a b c : Expr} {es : List Expr} {pos : Pos}
theorem read_ix {x y : V} {H : Hp} {Q : VK} {d1 d2 : D} {s : S} (r1 : Rd X.K H d1 x) (r2 : Rd X.K H d2 y) (h : dIxS d1 d2 = some s) (q : ∀ z H', Same H H' → RS X.K H H' s z → Q z H') : rIx X.K x y H Q := by
  cases d1 <;> cases d2 <;> simp only [dIxS] at h <;> try (cases h; done)
  · split at h
    · rename_i z i hz
      cases he : atI z.cps.toList i with
      | none => rw [he] at h; cases h
      | some c =>
        rw [he] at h
        cases h
        exact .inr (.inr ⟨z, i, c, r1.str, r2.int, line_le hz, he, q _ H (Same.refl H) rfl⟩)
    · cases h
  · rename_i ds i
    obtain ⟨a, vs, e1, s1, i1⟩ := r1.tup
    cases he : atI ds i with
    | none => rw [he] at h; cases h
    | some d =>
      rw [he] at h
      cases h
      obtain ⟨v, hv, im⟩ := immL_atI i1 he
      exact .inr (.inl ⟨a, vs, i, v, e1, r2.int, s1.seq, hv, q _ H (Same.refl H) im⟩)
  · rename_i ds i
    obtain ⟨a, vs, e1, s1, i1⟩ := r1.lst
    cases he : atI ds i with
    | none => rw [he] at h; cases h
    | some d =>
      rw [he] at h
      cases h
      obtain ⟨v, hv, im⟩ := immL_atI i1 he
      exact .inl ⟨a, vs, i, v, e1, r2.int, s1, hv, q _ H (Same.refl H) im⟩
  · rename_i ns i
    obtain ⟨a, e1, s1⟩ := r1.scr
    cases he : atI ns i with
    | none => rw [he] at h; cases h
    | some d =>
      rw [he] at h
      cases h
      exact .inl ⟨a, _, i, .int d, e1, r2.int, s1, by rw [atI_map, he]; rfl, q _ H (Same.refl H) rfl⟩
  · rename_i ds i
    obtain ⟨a, vs, e1, s1, i1⟩ := r1.ktp
    cases he : atI ds i with
    | none => rw [he] at h; cases h
    | some d =>
      rw [he] at h
      cases h
      obtain ⟨v, hv, im⟩ := immL_atI i1 he
      exact .inr (.inl ⟨a, vs, i, v, e1, r2.int, s1.seq, hv, q _ H (Same.refl H) im⟩)
theorem read_ixA {x y : V} {H : Hp} {Q : VK} {d1 d2 : D} {s : S} (r1 : Rd X.K H d1 x) (r2 : Rd X.K H d2 y) (h : dIx d1 d2 = some s) (q : ∀ z H', Same H H' → RS X.K H H' s z → Q z H') : rIxA X.K x y H Q := by
  unfold dIx at h
  split at h
  · rename_i t kvs
    cases e : kOf t d2 with
    | none => rw [e] at h; cases h
    | some k =>
      rw [e] at h
      obtain ⟨a, o, h1, h2, h3⟩ := dget_of r1 r2 e
      cases e2 : gGet t kvs k with
      | none => rw [Option.bind_some, e2] at h; cases h
      | some d =>
        rw [Option.bind_some, e2] at h
        rw [e2] at h3
        obtain ⟨v, rfl, im⟩ := h3
        cases h
        exact .inr ⟨a, v, h1, h2, q v H (Same.refl H) im⟩
  · exact .inl (read_ix r1 r2 h q)
theorem e_ix {fa fb : Ex} (ha : EOk g a fa) (hb : EOk g b fb) (hs : PlainIx b := by intro _ _; rfl) : EOk g (.Subscript a b pos) (e2 dIx fa fb) := fun X W A tk =>
  PE.imp (pe_ix (IxR.or ix_seq (ix_dc (by have := A.room.un; omega))) (ha.n A tk) (hb.n A tk) hs) fun σ H Q t => read2 (r := rIxA X.K) (fun x y H Q d1 d2 s r1 r2 h q => read_ixA r1 r2 h q) t
/-! ### slices -/
def cutG {α : Type} (xs : List α) (lo hi : Option Int) : List α := (xs.drop (HT.sIx xs.length 0 lo)).take (HT.sIx xs.length xs.length hi - HT.sIx xs.length 0 lo)
theorem immL_cut {K : PySem.W.Frag} {H : Hp} {ds : List D} {vs : List V} (h : ImmL K H ds vs) (lo hi : Option Int) : ImmL K H (cutG ds lo hi) (cutV vs lo hi) := by
  unfold cutG cutV
  rw [h.len]
  exact (h.drop _).take _
theorem cut_whole {α : Type} (xs : List α) (lo hi : Option Int) (h : HT.sIx xs.length 0 lo = 0 ∧ HT.sIx xs.length xs.length hi = xs.length) : cutG xs lo hi = xs := by
  unfold cutG
  rw [h.1, h.2]
  simp
theorem cutV_map {α : Type} (f : α → V) (xs : List α) (lo hi : Option Int) : cutV (xs.map f) lo hi = (cutG xs lo hi).map f := by
  unfold cutG cutV
  rw [List.length_map, List.map_take, List.map_drop]
def dSl : D → Option Int → Option Int → Option S
  | .tup ds, lo, hi => some (.v (.tup (cutG ds lo hi)))
  | .lst ds, lo, hi => some (.o (.lst (cutG ds lo hi)))
  | .scr ns, lo, hi => some (.o (.lst ((cutG ns lo hi).map .int)))
  | .str z, lo, hi => if z.length ≤ 16777216 then some (.v (.str (cutS z lo hi))) else none
  | _, _, _ => none
theorem immL_map_int {K : PySem.W.Frag} {H : Hp} : ∀ ns : List Int, ImmL K H (ns.map .int) (ns.map V.int)
  | [] => rfl
  | n :: ns => ⟨_, _, rfl, rfl, immL_map_int ns⟩
abbrev Px := Rho → Out (Option Int × Rho)
def tP (K : PySem.W.Frag) (g : Cf) (f : Px) (W : WX) : L2.TO := fun σ H Q => ∃ ρ, ER K g ρ σ H ∧ Pst K g σ H W (fun p H' => ER K g p.2 σ H' → Q p.1 H') (f ρ)
def POk (g : Cf) (e : Option Expr) (f : Px) : Prop := ∀ (X : Cx) (W : WX), At g X → Takes X W → L2.PO X e (tP X.K g f W)
theorem PO.imp {X : Cx} {e : Option Expr} {t t' : L2.TO} (h : L2.PO X e t) (hi : ∀ σ H Q, t' σ H Q → t σ H Q) : L2.PO X e t' := ⟨fun pins s σ H Q I q => h.run pins s σ H Q I (hi σ H Q q)⟩
def pNo : Px := fun ρ => .ok (none, ρ)
def dInt : D → Option Int
  | .int i => some i
  | _ => none
def pSo (f : Ex) : Px := fun ρ => f ρ >>= fun p => pk p.2 p.1 >>= fun d => liftO (dInt d) >>= fun i => .ok (some i, p.2)
theorem p_no : POk g none pNo := fun X W A tk => PO.imp po_none fun σ H Q ⟨ρ, R, q⟩ => q H (Ext.refl H) R
theorem p_so {f : Ex} (h : EOk g e f) : POk g (some e) (pSo f) := fun X W A tk => by
  refine PO.imp (po_some (h.n A tk)) fun σ H Q ⟨ρ, R, q⟩ => tN_step R q fun s1 ρ1 x H1 R1 E1 n1 q1 => ?_
  obtain ⟨d1, h1, q3⟩ := q1.pk
  obtain ⟨i, ho, q5⟩ := q3.opt
  have rd := pk_rd n1 R1 (Ext.refl _) h1
  cases d1 <;> simp only [dInt] at ho <;> cases ho
  exact ⟨i, rd.int, q5 H1 (Ext.refl _) R1⟩
theorem tP_step {K : PySem.W.Frag} {σ : L2.St} {H : Hp} {W : WX} {β : Type} {G : β → Hp → Prop} {ρ : Rho} {fa : Px} {k : Option Int × Rho → Out β} {Q : Option Int → Hp → Prop} (R : ER K g ρ σ H) (q : Pst K g σ H W G (fa ρ >>= k))
    (h : ∀ s ρ1 H1, ER K g ρ1 σ H1 → Ext H H1 → Pst K g σ H1 W G (k (s, ρ1)) → Q s H1) : tP K g fa W σ H Q := by
  refine ⟨ρ, R, ?_⟩
  cases ha : fa ρ with
  | stuck => rw [ha] at q; exact q.elim
  | exc c ρ1 => rw [ha] at q; exact q
  | ok p =>
    rw [ha] at q
    exact fun H1 E1 R1 => h p.1 p.2 H1 R1 E1 (Pst.ext E1 (r := k p) q)
def eSl (f : Ex) (lo hi : Px) : Ex := fun ρ => f ρ >>= fun p => lo p.2 >>= fun q => hi q.2 >>= fun r => pk r.2 p.1 >>= fun d => liftO (dSl d q.1 r.1) >>= fun s => .ok (s, r.2)
theorem e_sl {lo hi : Option Expr} {f : Ex} {fl fh : Px} {p2 : Pos} (h : EOk g e f) (hl : POk g lo fl) (hh : POk g hi fh) : EOk g (.Subscript e (.Slice lo hi none p2) pos) (eSl f fl fh) := fun X W A tk => by
  refine PE.imp (pe_slice (SlR.or sl_list (SlR.or sl_tupA sl_str)) (h.n A tk) (hl X W A tk) (hh X W A tk)) fun σ H Q ⟨ρ, R, q⟩ => ?_
  refine tN_step R q fun s1 ρ1 x H1 R1 E1 n1 q1 => tP_step R1 q1 fun l ρ2 H2 R2 E2 q2 => tP_step R2 q2 fun u ρ3 H3 R3 E3 q3 => ?_
  obtain ⟨d, h1, q4⟩ := q3.pk
  obtain ⟨s, ho, q5⟩ := q4.opt
  have rd := pk_rd n1 R3 (E2.trans E3) h1
  have fin : ∀ z H', Same H3 H' → RS X.K H3 H' s z → Q z H' := fun z H' sm rs => q5 H' (Ext.of_same sm) (R3.same sm) z (rs.sr R3)
  cases d <;> simp only [dSl] at ho <;> try (cases ho; done)
  · split at ho
    · rename_i z hz
      cases ho
      exact .inr (.inr ⟨z, rd.str, line_le hz, fin _ H3 (Same.refl _) rfl⟩)
    · cases ho
  · cases ho
    obtain ⟨a, vs, e1, s1, i1⟩ := rd.tup
    refine .inr (.inl ⟨a, vs, e1, s1.seq, fun hw => ?_, fun hw p hp => ?_⟩)
    · rw [i1.len] at hw
      rw [cut_whole _ _ _ hw] at fin
      exact fin _ H3 (Same.refl _) ⟨a, vs, rfl, s1, i1⟩
    · exact fin _ _ (new_tup (K := X.K) hp) ⟨p, _, rfl, TpT.of upd_same, ImmL.ext (Ext.of_same (new_tup (K := X.K) hp)) _ _ (immL_cut i1 _ _)⟩
  · cases ho
    obtain ⟨a, vs, e1, s1, i1⟩ := rd.lst
    exact .inl ⟨a, vs, e1, s1, fun p hp => fin _ _ (new_tup (K := X.K) hp) ⟨p, rfl, hp, _, upd_same, ImmL.ext (Ext.of_same (new_tup (K := X.K) hp)) _ _ (immL_cut i1 _ _)⟩⟩
  · cases ho
    obtain ⟨a, e1, s1⟩ := rd.scr
    exact .inl ⟨a, _, e1, s1, fun p hp => fin _ _ (new_tup (K := X.K) hp) ⟨p, rfl, hp, _, upd_same, by rw [cutV_map]; exact immL_map_int _⟩⟩
/-- xs[::-1] of a list -/
def dRev : D → Option S
  | .lst ds => some (.o (.lst ds.reverse))
  | _ => none

/-! ### calls of built-ins, by the values -/
def CR (X : Cx) (f : Value) (od : List D → Option S) : Prop :=
  ∃ r : List V → Hp → VK → Prop, CallR X f r ∧ ∀ (xs : List V) (H : Hp) (Q : VK) (ds : List D) (s : S), Paired (Rd X.K H) ds xs → od ds = some s → (∀ z H', Same H H' → RS X.K H H' s z → Q z H') → r xs H Q
def pkL (ρ : Rho) : List S → Out (List D)
  | [] => .ok []
  | s :: ss => pk ρ s >>= fun d => pkL ρ ss >>= fun ds => .ok (d :: ds)
theorem pkL_rd {K : PySem.W.Frag} {ρ' : Rho} {σ : L2.St} {H : Hp} (R : ER K g ρ' σ H) : ∀ {ss : List S} {xs : List V} {ds : List D}, NRL K σ H ss xs → pkL ρ' ss = .ok ds → Paired (Rd K H) ds xs
  | [], _, _, n, h => by cases h; cases (show _ = _ from n); exact .nil
  | s :: ss, _, ds, ⟨x, r, e, n1, n2⟩, h => by
    subst e
    unfold pkL at h
    cases h1 : pk ρ' s with
    | stuck => rw [h1] at h; cases h
    | exc c ρ1 => exact (pk_noexc h1).elim
    | ok d =>
      rw [h1] at h
      simp only [bind_ok] at h
      cases h2 : pkL ρ' ss with
      | stuck => rw [h2] at h; cases h
      | exc c ρ1 => rw [h2] at h; cases h
      | ok es =>
        rw [h2] at h
        cases h
        exact .cons (pk_rd n1 R (Ext.refl _) h1) (pkL_rd R n2 h2)
theorem pkL_noexc {ρ ρ' : Rho} {c : Str} : ∀ {ss : List S}, pkL ρ ss = .exc c ρ' → False
  | [], h => nomatch h
  | s :: ss, h => by
    unfold pkL at h
    cases h1 : pk ρ s with
    | stuck => rw [h1] at h; cases h
    | exc c ρ1 => exact (pk_noexc h1).elim
    | ok d =>
      rw [h1] at h
      simp only [bind_ok] at h
      cases h2 : pkL ρ ss with
      | stuck => rw [h2] at h; cases h
      | exc c ρ1 => exact pkL_noexc h2
      | ok es => rw [h2] at h; cases h
theorem Pst.pkL {K : PySem.W.Frag} {σ : L2.St} {H : Hp} {W : WX} {β : Type} {G : β → Hp → Prop} {ρ : Rho} {s : List S} {k : List D → Out β} (q : Pst K g σ H W G (PL.pkL ρ s >>= k)) : ∃ d, PL.pkL ρ s = .ok d ∧ Pst K g σ H W G (k d) := by
  cases h : PL.pkL ρ s with
  | stuck => rw [h] at q; exact q.elim
  | exc c ρ' => exact (pkL_noexc h).elim
  | ok d => rw [h] at q; exact ⟨d, rfl, q⟩
def eB (od : List D → Option S) (fa : Ax) : Ex := fun ρ => fa ρ >>= fun p => pkL p.2 p.1 >>= fun ds => liftO (od ds) >>= fun s => .ok (s, p.2)
theorem readCB {X : Cx} {W : WX} {r : List V → Hp → VK → Prop} {od : List D → Option S} {fa : Ax} {σ : L2.St} {H : Hp} {Q : VK}
    (h : ∀ (xs : List V) (H : Hp) (Q : VK) (ds : List D) (s : S), Paired (Rd X.K H) ds xs → od ds = some s → (∀ z H', Same H H' → RS X.K H H' s z → Q z H') → r xs H Q)
    (t : tE X.K g (eB od fa) W σ H Q) : tA X.K g fa W σ H fun xs H1 => r xs H1 Q := by
  obtain ⟨ρ, R, q⟩ := t
  refine tA_step R q fun ss ρ1 xs H1 R1 E1 n1 q1 => ?_
  obtain ⟨ds, h1, q3⟩ := q1.pkL
  obtain ⟨s, ho, q5⟩ := q3.opt
  exact h xs H1 Q ds s (pkL_rd R1 n1 h1) ho fun z H' sm rs => q5 H' (Ext.of_same sm) (R1.same sm) z (rs.sr R1)
theorem e_cb {x : Str} {id : String} {p : Pos} {od : List D → Option S} {fa : Ax} (hc : ∀ X, At g X → CR X (.builtin id) od) (hm : g.mg x = none) (hv : bootBuiltins x = some (.builtin id)) (ha : AOk g (e :: es) fa) (hg : Glo g x := by rfl)
    (hn : x ≠ "__name__" := by decide) (hdb : (x == ("__debug__" : Str)) = false := by decide)
    (he : ∀ env, starEach (e :: es) env = (false, eval e env) :: starEach es env := by intro _; rfl) (hpl : ∀ env, (backTo pos (starEach es env)).any (·.1) = false := by intro _; rfl) : EOk g (.Call (.Name x p) (e :: es) [] pos) (eB od fa) := fun X W A tk => by
  obtain ⟨r, hr, h⟩ := hc X A
  exact PE.imp (pe_callB hr (hg.gl A) (by rw [A.mg]; exact hm) hv (ha X W A tk) hn hdb (he _) (hpl _)) fun σ H Q t => readCB h t
theorem e_cty {x : Str} {T : String} {p : Pos} {od : List D → Option S} {fa : Ax} (hc : ∀ X, At g X → CR X (.type T) od) (hm : g.mg x = none) (hv : bootBuiltins x = some (.type T)) (ha : AOk g (e :: es) fa) (hg : Glo g x := by rfl)
    (hn : x ≠ "__name__" := by decide) (hdb : (x == ("__debug__" : Str)) = false := by decide)
    (he : ∀ env, starEach (e :: es) env = (false, eval e env) :: starEach es env := by intro _; rfl) (hpl : ∀ env, (backTo pos (starEach es env)).any (·.1) = false := by intro _; rfl) : EOk g (.Call (.Name x p) (e :: es) [] pos) (eB od fa) := fun X W A tk => by
  obtain ⟨r, hr, h⟩ := hc X A
  exact PE.imp (pe_callTy hr (hg.gl A) (by rw [A.mg]; exact hm) hv (ha X W A tk) hn hdb (he _) (hpl _)) fun σ H Q t => readCB h t
end
end PL

namespace PL
open PySem PySem.Spec PyProof.Rows L2
theorem pair1 {α β : Type} {R : α → β → Prop} {d : α} {xs : List β} (h : Paired R [d] xs) : ∃ x, xs = [x] ∧ R d x := by
  cases h with
  | cons r t => cases t; exact ⟨_, rfl, r⟩
theorem pair2 {α β : Type} {R : α → β → Prop} {d e : α} {xs : List β} (h : Paired R [d, e] xs) : ∃ x y, xs = [x, y] ∧ R d x ∧ R e y := by
  cases h with
  | cons r t =>
    cases t with
    | cons r' t => cases t; exact ⟨_, _, rfl, r, r'⟩
theorem CallR.or {X : Cx} {f : Value} {r r' : List V → Hp → VK → Prop} (h : CallR X f r) (h' : CallR X f r') : CallR X f (fun xs H Q => r xs H Q ∨ r' xs H Q) := by
  intro pins s σ H xs us Q I rx q
  rcases q with q | q
  · exact h pins s σ H xs us Q I rx q
  · exact h' pins s σ H xs us Q I rx q
section
variable {g : Cf} {X : Cx} {e a b c : Expr} {es : List Expr} {pos : Pos}
/-! ### len, abs, int, str, tuple, list, sum .. -/
def dLen : List D → Option S
  | [.str z] => if z.length ≤ 16777216 then some (.v (.int z.length)) else none
  | [.tup ds] => some (.v (.int ds.length))
  | [.lst ds] => some (.v (.int ds.length))
  | [.scr ns] => some (.v (.int ns.length))
  | [.ktp ds] => some (.v (.int ds.length))
  | _ => none
theorem c_len (A : At g X) : CR X (.builtin "len") dLen := by
  refine ⟨_, call_len, fun xs H Q ds s p h q => ?_⟩
  match ds, h with
  | [.str z], h =>
    obtain ⟨x, rfl, r⟩ := pair1 p
    cases r.str
    simp only [dLen] at h
    split at h
    · rename_i hz
      cases h
      exact ⟨_, _, rfl, ⟨line_le hz, rfl⟩, q _ H (Same.refl H) rfl⟩
    · cases h
  | [.tup ds], h =>
    obtain ⟨x, rfl, r⟩ := pair1 p
    obtain ⟨a, vs, rfl, s1, i1⟩ := r.tup
    cases h
    exact ⟨_, ds.length, rfl, .inr ⟨vs, s1.seq, i1.len.symm⟩, q _ H (Same.refl H) rfl⟩
  | [.lst ds], h =>
    obtain ⟨x, rfl, r⟩ := pair1 p
    obtain ⟨a, vs, rfl, s1, i1⟩ := r.lst
    cases h
    exact ⟨_, ds.length, rfl, .inl ⟨vs, s1, i1.len.symm⟩, q _ H (Same.refl H) rfl⟩
  | [.scr ns], h =>
    obtain ⟨x, rfl, r⟩ := pair1 p
    obtain ⟨a, rfl, s1⟩ := r.scr
    cases h
    exact ⟨_, ns.length, rfl, .inl ⟨_, s1, by rw [List.length_map]⟩, q _ H (Same.refl H) rfl⟩
  | [.ktp ds], h =>
    obtain ⟨x, rfl, r⟩ := pair1 p
    obtain ⟨a, vs, rfl, s1, i1⟩ := r.ktp
    cases h
    exact ⟨_, ds.length, rfl, .inr ⟨vs, s1.seq, i1.len.symm⟩, q _ H (Same.refl H) rfl⟩
def dAbs : List D → Option S
  | [.int i] => some (.v (.int (if i < 0 then -i else i)))
  | _ => none
theorem c_abs (A : At g X) : CR X (.builtin "abs") dAbs := by
  refine ⟨_, call_abs, fun xs H Q ds s p h q => ?_⟩
  match ds, h with
  | [.int i], h =>
    obtain ⟨x, rfl, r⟩ := pair1 p
    cases h
    cases r.int
    exact ⟨i, rfl, q _ H (Same.refl H) rfl⟩
def dInt1 : List D → Option S
  | [.int i] => some (.v (.int i))
  | [.bl k] => some (.v (.int (if k then 1 else 0)))
  | _ => none
theorem c_int (A : At g X) : CR X (.type "int") dInt1 := by
  refine ⟨_, call_int1, fun xs H Q ds s p h q => ?_⟩
  match ds, h with
  | [.int i], h =>
    obtain ⟨x, rfl, r⟩ := pair1 p
    cases h
    cases r.int
    exact .inl ⟨i, rfl, q _ H (Same.refl H) rfl⟩
  | [.bl k], h =>
    obtain ⟨x, rfl, r⟩ := pair1 p
    cases h
    cases r.bl
    exact .inr ⟨k, rfl, q _ H (Same.refl H) rfl⟩
def dStr1 : List D → Option S
  | [.int i] => if i.natAbs.log2 < 1920 then some (.v (.str (Str.ofString (toString i)))) else none
  | _ => none
theorem c_str (A : At g X) : CR X (.type "str") dStr1 := by
  refine ⟨_, call_str_int, fun xs H Q ds s p h q => ?_⟩
  match ds, h with
  | [.int i], h =>
    obtain ⟨x, rfl, r⟩ := pair1 p
    simp only [dStr1] at h
    split at h
    · rename_i hz
      cases h
      cases r.int
      exact ⟨i, rfl, hz, q _ H (Same.refl H) rfl⟩
    · cases h
def dTup1 : List D → Option S
  | [.tup ds] => some (.v (.tup ds))
  | [.lst ds] => some (.v (.tup ds))
  | [.scr ns] => some (.v (.tup (ns.map .int)))
  | [.ktp ds] => some (.v (.ktp ds))
  | _ => none
theorem c_tup (A : At g X) : CR X (.type "tuple") dTup1 := by
  refine ⟨_, call_tuple_of, fun xs H Q ds s p h q => ?_⟩
  match ds, h with
  | [.tup ds], h =>
    obtain ⟨x, rfl, r⟩ := pair1 p
    obtain ⟨a, vs, rfl, s1, i1⟩ := r.tup
    cases h
    exact ⟨a, vs, rfl, .inr ⟨s1.seq, q _ H (Same.refl H) ⟨a, vs, rfl, s1, i1⟩⟩⟩
  | [.lst ds], h =>
    obtain ⟨x, rfl, r⟩ := pair1 p
    obtain ⟨a, vs, rfl, s1, i1⟩ := r.lst
    cases h
    exact ⟨a, vs, rfl, .inl ⟨s1, fun p hp => q _ _ (new_tup (K := X.K) hp) ⟨p, _, rfl, TpT.of upd_same, ImmL.ext (Ext.of_same (new_tup (K := X.K) hp)) _ _ i1⟩⟩⟩
  | [.scr ns], h =>
    obtain ⟨x, rfl, r⟩ := pair1 p
    obtain ⟨a, rfl, s1⟩ := r.scr
    cases h
    exact ⟨a, _, rfl, .inl ⟨s1, fun p hp => q _ _ (new_tup (K := X.K) hp) ⟨p, _, rfl, TpT.of upd_same, immL_map_int ns⟩⟩⟩
  | [.ktp ds], h =>
    obtain ⟨x, rfl, r⟩ := pair1 p
    obtain ⟨a, vs, rfl, s1, i1⟩ := r.ktp
    cases h
    exact ⟨a, vs, rfl, .inr ⟨s1.seq, q _ H (Same.refl H) ⟨a, vs, rfl, s1, i1⟩⟩⟩
def dLst1 : List D → Option S
  | [.tup ds] => some (.o (.lst ds))
  | [.lst ds] => some (.o (.lst ds))
  | [.scr ns] => some (.o (.lst (ns.map .int)))
  | [.ktp ds] => some (.o (.lst ds))
  | _ => none
theorem c_list (A : At g X) : CR X (.type "list") dLst1 := by
  refine ⟨_, call_list_of, fun xs H Q ds s p h q => ?_⟩
  match ds, h with
  | [.tup ds], h =>
    obtain ⟨x, rfl, r⟩ := pair1 p
    obtain ⟨a, vs, rfl, s1, i1⟩ := r.tup
    cases h
    exact ⟨a, vs, rfl, .inr s1.seq, fun p hp => q _ _ (new_tup (K := X.K) hp) ⟨p, rfl, hp, _, upd_same, ImmL.ext (Ext.of_same (new_tup (K := X.K) hp)) _ _ i1⟩⟩
  | [.ktp ds], h =>
    obtain ⟨x, rfl, r⟩ := pair1 p
    obtain ⟨a, vs, rfl, s1, i1⟩ := r.ktp
    cases h
    exact ⟨a, vs, rfl, .inr s1.seq, fun p hp => q _ _ (new_tup (K := X.K) hp) ⟨p, rfl, hp, _, upd_same, ImmL.ext (Ext.of_same (new_tup (K := X.K) hp)) _ _ i1⟩⟩
  | [.lst ds], h =>
    obtain ⟨x, rfl, r⟩ := pair1 p
    obtain ⟨a, vs, rfl, s1, i1⟩ := r.lst
    cases h
    exact ⟨a, vs, rfl, .inl s1, fun p hp => q _ _ (new_tup (K := X.K) hp) ⟨p, rfl, hp, _, upd_same, ImmL.ext (Ext.of_same (new_tup (K := X.K) hp)) _ _ i1⟩⟩
  | [.scr ns], h =>
    obtain ⟨x, rfl, r⟩ := pair1 p
    obtain ⟨a, rfl, s1⟩ := r.scr
    cases h
    exact ⟨a, _, rfl, .inl s1, fun p hp => q _ _ (new_tup (K := X.K) hp) ⟨p, rfl, hp, _, upd_same, immL_map_int ns⟩⟩
def blsD : List D → Option (List Bool)
  | [] => some []
  | .bl i :: ds => (blsD ds).map (i :: ·)
  | _ :: _ => none
theorem immL_bls {K : PySem.W.Frag} {H : Hp} : ∀ {ds : List D} {vs : List V} {ns : List Bool}, ImmL K H ds vs → blsD ds = some ns → vs = ns.map V.bl
  | [], _, _, h, e => by cases (show _ = _ from h); cases e; rfl
  | .bl i :: ds, _, ns, ⟨v, r, e1, h1, h2⟩, e => by
    subst e1
    cases (show _ = _ from h1)
    simp only [blsD] at e
    cases hh : blsD ds with
    | none => rw [hh] at e; cases e
    | some ms =>
      rw [hh] at e
      cases e
      rw [List.map_cons, immL_bls h2 hh]
  | .non :: _, _, _, _, e => nomatch e
  | .int _ :: _, _, _, _, e => nomatch e
  | .str _ :: _, _, _, _, e => nomatch e
  | .tup _ :: _, _, _, _, e => nomatch e
  | .lst _ :: _, _, _, _, e => nomatch e
  | .dic _ _ :: _, _, _, _, e => nomatch e
  | .scr _ :: _, _, _, _, e => nomatch e
  | .ktp _ :: _, _, _, _, e => nomatch e
def dAll : List D → Option S
  | [.lst ds] => (blsD ds).map fun bs => .v (.bl (bs.all id))
  | _ => none
def dAny : List D → Option S
  | [.lst ds] => (blsD ds).map fun bs => .v (.bl (bs.any id))
  | _ => none
theorem c_all (A : At g X) : CR X (.builtin "all") dAll := by
  refine ⟨_, cr_all A.calm, fun xs H Q ds s p h q => ?_⟩
  match ds, h with
  | [.lst ds], h =>
    obtain ⟨x, rfl, r⟩ := pair1 p
    obtain ⟨a, vs, rfl, s1, i1⟩ := r.lst
    simp only [dAll] at h
    cases hb : blsD ds with
    | none => rw [hb] at h; cases h
    | some bs =>
      rw [hb] at h
      cases h
      exact ⟨a, bs, rfl, by rw [← immL_bls i1 hb]; exact s1, q _ H (Same.refl H) rfl⟩
theorem c_any (A : At g X) : CR X (.builtin "any") dAny := by
  refine ⟨_, cr_any A.calm, fun xs H Q ds s p h q => ?_⟩
  match ds, h with
  | [.lst ds], h =>
    obtain ⟨x, rfl, r⟩ := pair1 p
    obtain ⟨a, vs, rfl, s1, i1⟩ := r.lst
    simp only [dAny] at h
    cases hb : blsD ds with
    | none => rw [hb] at h; cases h
    | some bs =>
      rw [hb] at h
      cases h
      exact ⟨a, bs, rfl, by rw [← immL_bls i1 hb]; exact s1, q _ H (Same.refl H) rfl⟩
def dSum : List D → Option S
  | [.lst ds] => (intsD ds).map fun ns => .v (.int ns.sum)
  | [.scr ns] => some (.v (.int ns.sum))
  | _ => none
theorem c_sum (A : At g X) : CR X (.builtin "sum") dSum := by
  refine ⟨_, cr_sum A.calm, fun xs H Q ds s p h q => ?_⟩
  match ds, h with
  | [.lst ds], h =>
    obtain ⟨x, rfl, r⟩ := pair1 p
    obtain ⟨a, vs, rfl, s1, i1⟩ := r.lst
    simp only [dSum] at h
    cases hb : intsD ds with
    | none => rw [hb] at h; cases h
    | some bs =>
      rw [hb] at h
      cases h
      exact ⟨a, bs, rfl, by rw [← immL_ints i1 hb]; exact s1, q _ H (Same.refl H) rfl⟩
  | [.scr ns], h =>
    obtain ⟨x, rfl, r⟩ := pair1 p
    obtain ⟨a, rfl, s1⟩ := r.scr
    cases h
    exact ⟨a, ns, rfl, s1, q _ H (Same.refl H) rfl⟩
/-- the greatest, the least of ints -/
def maxI : List Int → Int
  | [] => 0
  | n :: ns => ns.foldl max n
def minI : List Int → Int
  | [] => 0
  | n :: ns => ns.foldl min n
theorem foldl_max_spec : ∀ (ns : List Int) (a : Int), (a ≤ ns.foldl max a) ∧ (∀ y ∈ ns, y ≤ ns.foldl max a) ∧ (ns.foldl max a = a ∨ ns.foldl max a ∈ ns)
  | [], a => ⟨Int.le_refl _, by simp, .inl rfl⟩
  | n :: ns, a => by
    obtain ⟨h1, h2, h3⟩ := foldl_max_spec ns (max a n)
    refine ⟨by simp only [List.foldl_cons]; omega, fun y hy => ?_, ?_⟩
    · simp only [List.foldl_cons]
      rcases List.mem_cons.mp hy with rfl | hy
      · omega
      · exact h2 y hy
    · simp only [List.foldl_cons]
      rcases h3 with h3 | h3
      · rw [h3]
        by_cases c : n ≤ a
        · left; omega
        · right; rw [show max a n = n by omega]; exact List.mem_cons_self
      · right; exact List.mem_cons_of_mem _ h3
theorem foldl_min_spec : ∀ (ns : List Int) (a : Int), (ns.foldl min a ≤ a) ∧ (∀ y ∈ ns, ns.foldl min a ≤ y) ∧ (ns.foldl min a = a ∨ ns.foldl min a ∈ ns)
  | [], a => ⟨Int.le_refl _, by simp, .inl rfl⟩
  | n :: ns, a => by
    obtain ⟨h1, h2, h3⟩ := foldl_min_spec ns (min a n)
    refine ⟨by simp only [List.foldl_cons]; omega, fun y hy => ?_, ?_⟩
    · simp only [List.foldl_cons]
      rcases List.mem_cons.mp hy with rfl | hy
      · omega
      · exact h2 y hy
    · simp only [List.foldl_cons]
      rcases h3 with h3 | h3
      · rw [h3]
        by_cases c : a ≤ n
        · left; omega
        · right; rw [show min a n = n by omega]; exact List.mem_cons_self
      · right; exact List.mem_cons_of_mem _ h3
theorem maxI_mem {ns : List Int} (h : 0 < ns.length) : maxI ns ∈ ns := by
  cases ns with
  | nil => simp at h
  | cons n ns =>
    obtain ⟨_, _, h3⟩ := foldl_max_spec ns n
    rcases h3 with h3 | h3
    · show ns.foldl max n ∈ _; rw [h3]; exact List.mem_cons_self
    · exact List.mem_cons_of_mem _ h3
theorem maxI_le {ns : List Int} {y : Int} (h : y ∈ ns) : y ≤ maxI ns := by
  cases ns with
  | nil => cases h
  | cons n ns =>
    obtain ⟨h1, h2, _⟩ := foldl_max_spec ns n
    rcases List.mem_cons.mp h with rfl | h
    · exact h1
    · exact h2 y h
theorem minI_mem {ns : List Int} (h : 0 < ns.length) : minI ns ∈ ns := by
  cases ns with
  | nil => simp at h
  | cons n ns =>
    obtain ⟨_, _, h3⟩ := foldl_min_spec ns n
    rcases h3 with h3 | h3
    · show ns.foldl min n ∈ _; rw [h3]; exact List.mem_cons_self
    · exact List.mem_cons_of_mem _ h3
theorem minI_le {ns : List Int} {y : Int} (h : y ∈ ns) : minI ns ≤ y := by
  cases ns with
  | nil => cases h
  | cons n ns =>
    obtain ⟨h1, h2, _⟩ := foldl_min_spec ns n
    rcases List.mem_cons.mp h with rfl | h
    · exact h1
    · exact h2 y h
def dMax : List D → Option S
  | [.int i, .int j] => some (.v (.int (if j > i then j else i)))
  | [.lst ds] => match intsD ds with
    | some (n :: ns) => some (.v (.int (maxI (n :: ns))))
    | _ => none
  | _ => none
def dMin : List D → Option S
  | [.int i, .int j] => some (.v (.int (if j < i then j else i)))
  | [.lst ds] => match intsD ds with
    | some (n :: ns) => some (.v (.int (minI (n :: ns))))
    | _ => none
  | _ => none
theorem c_max (A : At g X) : CR X (.builtin "max") dMax := by
  refine ⟨_, CallR.or (call_max2 A.calm) (cr_max A.calm), fun xs H Q ds s p h q => ?_⟩
  match ds, h with
  | [.int i, .int j], h =>
    obtain ⟨x, y, rfl, r, r'⟩ := pair2 p
    cases h
    cases r.int
    cases r'.int
    exact .inl ⟨i, j, rfl, q _ H (Same.refl H) rfl⟩
  | [.lst ds], h =>
    obtain ⟨x, rfl, r⟩ := pair1 p
    obtain ⟨a, vs, rfl, s1, i1⟩ := r.lst
    simp only [dMax] at h
    cases hb : intsD ds with
    | none => rw [hb] at h; cases h
    | some bs =>
      cases bs with
      | nil => rw [hb] at h; cases h
      | cons n ns =>
        rw [hb] at h
        cases h
        refine .inr ⟨a, n :: ns, rfl, by rw [← immL_ints i1 hb]; exact s1, by simp, fun m hm hle => ?_⟩
        have e : m = maxI (n :: ns) := Int.le_antisymm (maxI_le hm) (hle _ (maxI_mem (by simp)))
        subst e
        exact q _ H (Same.refl H) rfl
theorem c_min (A : At g X) : CR X (.builtin "min") dMin := by
  refine ⟨_, CallR.or (call_min2 A.calm) (cr_min A.calm), fun xs H Q ds s p h q => ?_⟩
  match ds, h with
  | [.int i, .int j], h =>
    obtain ⟨x, y, rfl, r, r'⟩ := pair2 p
    cases h
    cases r.int
    cases r'.int
    exact .inl ⟨i, j, rfl, q _ H (Same.refl H) rfl⟩
  | [.lst ds], h =>
    obtain ⟨x, rfl, r⟩ := pair1 p
    obtain ⟨a, vs, rfl, s1, i1⟩ := r.lst
    simp only [dMin] at h
    cases hb : intsD ds with
    | none => rw [hb] at h; cases h
    | some bs =>
      cases bs with
      | nil => rw [hb] at h; cases h
      | cons n ns =>
        rw [hb] at h
        cases h
        refine .inr ⟨a, n :: ns, rfl, by rw [← immL_ints i1 hb]; exact s1, by simp, fun m hm hle => ?_⟩
        have e : m = minI (n :: ns) := Int.le_antisymm (hle _ (minI_mem (by simp))) (minI_le hm)
        subst e
        exact q _ H (Same.refl H) rfl
/-! ### isinstance -/
inductive Ty where
  | int | bool | str | tuple | list | dict
def Ty.name : Ty → String
  | .int => "int" | .bool => "bool" | .str => "str" | .tuple => "tuple" | .list => "list" | .dict => "dict"
def isT : Ty → D → Option Bool
  | .dict, .dic false _ => some true
  | _, .dic true _ => none
  | .int, .int _ => some true
  | .int, .bl _ => some true
  | .bool, .bl _ => some true
  | .str, .str _ => some true
  | .tuple, .tup _ => some true
  | .tuple, .ktp _ => some true
  | .list, .lst _ => some true
  | .list, .scr _ => some true
  | _, _ => some false
def tyN : D → String
  | .non => "NoneType" | .bl _ => "bool" | .int _ => "int" | .str _ => "str" | .tup _ => "tuple" | .lst _ => "list" | .dic _ _ => "dict" | .scr _ => "list" | .ktp _ => "tuple"
theorem kit_tab : ∀ (t : Ty) (d : D) (k : Bool), isT t d = some k → kitB (tyN d) t.name = some k := by
  intro t d k h
  cases d with
  | dic b kvs => cases b <;> cases t <;> (cases h <;> (simp only [tyN, Ty.name]; decide +kernel))
  | _ => cases t <;> (cases h; simp only [tyN, Ty.name]; decide +kernel)
theorem tyx_of {K : PySem.W.Frag} {H : Hp} {t : Ty} {d : D} {x : V} {k : Bool} (r : Rd K H d x) (h : isT t d = some k) : TyX K H x (.type (tyN d)) := by
  cases d with
  | non => cases r.non; exact .base .non
  | bl b => cases r.bl; exact .base (.bl b)
  | int b => cases r.int; exact .base (.int b)
  | str b => cases r.str; exact .base (.str b)
  | tup ds =>
    obtain ⟨a, vs, rfl, s1, i1⟩ := r.tup
    exact .base (.tup s1)
  | ktp ds =>
    obtain ⟨a, vs, rfl, s1, i1⟩ := r.ktp
    obtain ⟨o, _, _, s1, _, s2, _⟩ := s1
    exact .kTuple s1 s2
  | lst ds =>
    obtain ⟨a, vs, rfl, s1, i1⟩ := r.lstR
    rcases s1 with s1 | ⟨o, s1⟩
    · exact .base (.lst s1)
    · exact .base (.frz s1)
  | scr ns =>
    obtain ⟨a, rfl, s1⟩ := r.scr
    rcases s1 with (s1 | ⟨o, s1⟩) | ⟨o, _, _, s1, s2, _⟩
    · exact .base (.lst s1)
    · exact .base (.frz s1)
    · exact .kList s1 s2
  | dic b kvs =>
    cases b with
    | true => cases t <;> cases h
    | false =>
      rcases r with ⟨a, o, kws, rfl, h1, h2⟩ | ⟨a, rfl, kws, h1, h2⟩
      · exact .fDict h1
      · exact .base (.dK h1)
def tIsi (f : D → Option Bool) (fa : Ex) : Tx := fun ρ => fa ρ >>= fun p => pk p.2 p.1 >>= fun d => liftO (f d) >>= fun k => .ok (k, p.2)
theorem read_isi {X : Cx} {W : WX} {β : Type} {G : β → Hp → Prop} {f : D → Option Bool} {fa : Ex} {σ : L2.St} {H : Hp} {Q : VK} {ρ : Rho} {k : Bool × Rho → Out β} {r : V → Hp → VK → Prop}
    (h : ∀ (x : V) (H : Hp) (Q : VK) (d : D) (b : Bool), Rd X.K H d x → f d = some b → Q (.bl b) H → r x H Q)
    (R : ER X.K g ρ σ H) (t : Pst X.K g σ H W G (tIsi f fa ρ >>= k)) (hk : ∀ b ρ2 H2, ER X.K g ρ2 σ H2 → Ext H H2 → Pst X.K g σ H2 W G (k (b, ρ2)) → Q (.bl b) H2) : tN X.K g fa W σ H fun x H1 => r x H1 Q := by
  have bb : tIsi f fa ρ >>= k = (fa ρ >>= fun p => pk p.2 p.1 >>= fun d => liftO (f d) >>= fun b => k (b, p.2)) := by
    unfold tIsi
    cases fa ρ with
    | stuck => rfl
    | exc c ρ1 => rfl
    | ok p =>
      simp only [bind_ok]
      cases pk p.2 p.1 with
      | stuck => rfl
      | exc c ρ1 => rfl
      | ok d =>
        simp only [bind_ok]
        cases f d <;> rfl
  rw [bb] at t
  refine tN_step R t fun s1 ρ1 x H1 R1 E1 n1 q1 => ?_
  obtain ⟨d, h1, q3⟩ := q1.pk
  obtain ⟨b, ho, q5⟩ := q3.opt
  exact h x H1 Q d b (pk_rd n1 R1 (Ext.refl _) h1) ho (hk b ρ1 H1 R1 E1 q5)
/-- isinstance(a, T), T a built-in type -/
theorem e_isi (t : Ty) {T : Str} {p p2 : Pos} {fa : Ex} (hT : bootBuiltins T = some (.type t.name)) (hm : g.mg "isinstance" = none) (hmT : g.mg T = none) (ha : EOk g a fa) (hg : Glo g "isinstance" := by rfl) (hgT : Glo g T := by rfl)
    (hn : T ≠ "__name__" := by decide) (hdb : (T == ("__debug__" : Str)) = false := by decide)
    (h1 : ∀ env, starEach (a :: [.Name T p2]) env = (false, eval a env) :: starEach [.Name T p2] env := by intro _; rfl) (h2 : ∀ env, starEach (.Name T p2 :: []) env = (false, eval (.Name T p2) env) :: starEach [] env := by intro _; rfl)
    (hpl : ∀ env, (backTo pos (starEach [.Name T p2] env)).any (·.1) = false := by intro _; rfl) : EOk g (.Call (.Name "isinstance" p) [a, .Name T p2] [] pos) (bE (tIsi (isT t) fa)) := fun X W A tk => by
  refine PE.imp (pe_callB call_isi (hg.gl A) (by rw [A.mg]; exact hm) (by decide +kernel) (pa_cons (ha.n A tk) (pa_cons (pe_bltn (v := .ty t.name) (hgT.gl A) (by rw [A.mg]; exact hmT) hT rfl hn hdb) pa_nil (h2 _)) (h1 _)) (by decide) (by decide) (h1 _) (hpl _)) fun σ H Q ⟨ρ, R, q⟩ => ?_
  refine read_isi (r := fun x H1 Q => rIsi X.K [x, .ty t.name] H1 Q) (fun x H Q d b r h q => ?_) R q fun b ρ2 H2 R2 E2 q => q H2 (Ext.refl _) R2 _ rfl
  exact ⟨x, _, _, _, b, rfl, .ty _, tyx_of r h, kit_ty (kit_tab t d b h), q⟩
theorem t_isi (t : Ty) {T : Str} {p p2 : Pos} {fa : Ex} (hT : bootBuiltins T = some (.type t.name)) (hm : g.mg "isinstance" = none) (hmT : g.mg T = none) (ha : EOk g a fa) (hg : Glo g "isinstance" := by rfl) (hgT : Glo g T := by rfl)
    (hn : T ≠ "__name__" := by decide) (hdb : (T == ("__debug__" : Str)) = false := by decide)
    (h1 : ∀ env, starEach (a :: [.Name T p2]) env = (false, eval a env) :: starEach [.Name T p2] env := by intro _; rfl) (h2 : ∀ env, starEach (.Name T p2 :: []) env = (false, eval (.Name T p2) env) :: starEach [] env := by intro _; rfl)
    (hpl : ∀ env, (backTo pos (starEach [.Name T p2] env)).any (·.1) = false := by intro _; rfl) : TOk g (.Call (.Name "isinstance" p) [a, .Name T p2] [] pos) (tIsi (isT t) fa) := fun X W A tk => by
  refine PT.imp (pt_val (pe_callB call_isi (hg.gl A) (by rw [A.mg]; exact hm) (by decide +kernel) (pa_cons (ha.n A tk) (pa_cons (pe_bltn (v := .ty t.name) (hgT.gl A) (by rw [A.mg]; exact hmT) hT rfl hn hdb) pa_nil (h2 _)) (h1 _)) (by decide) (by decide) (h1 _) (hpl _))) fun σ H Q ⟨ρ, R, q⟩ => ?_
  refine read_isi (Q := fun v H' => ∃ c, v = .bl c ∧ Q c H') (G := fun p H' => ER X.K g p.2 σ H' → Q p.1 H') (k := fun p => .ok p) (r := fun x H1 Q => rIsi X.K [x, .ty t.name] H1 Q) (fun x H Q d b r h q => ?_) R (by rw [bind_self]; exact q) fun b ρ2 H2 R2 E2 q => ⟨b, rfl, q H2 (Ext.refl _) R2⟩
  exact ⟨x, _, _, _, b, rfl, .ty _, tyx_of r h, kit_ty (kit_tab t d b h), q⟩
end
end PL

namespace PL
open PySem PySem.Spec PyProof.Rows L2
/-! ### statements -/
inductive Fl where
  | next (ρ : Rho) | ret (s : S) (ρ : Rho) | brk (ρ : Rho) | cnt (ρ : Rho)
abbrev Sx := Rho → Out Fl
section
variable {g : Cf} {X : Cx} {e a b c : Expr} {es : List Expr} {pos : Pos} {K : PySem.W.Frag} {W : WX}
/-- a value that is bound to a name, or handed back -/
def BR (K : PySem.W.Frag) (g : Cf) (ρ : Rho) (σ : L2.St) (H : Hp) : S → V → Prop
  | .v d, x => Imm K H d x
  | .o d, x => ∃ a, x = .ref a ∧ OwnAt K H a d ∧ ¬ Own ρ σ a ∧ g.H0 a = none
  | .b _, _ => False
def bd (l : List Nat) (s : S) (ρ : Rho) : Out (S × Rho) := match s with
  | .v d => .ok (.v d, ρ)
  | .o d => .ok (.o d, ρ)
  | .b i => fz l (.b i) ρ >>= fun p => .ok (.v p.1, p.2)
def eBd (l : List Nat) (f : Ex) : Ex := fun ρ => f ρ >>= fun p => bd l p.1 p.2
def tBd (K : PySem.W.Frag) (g : Cf) (f : Ex) (W : WX) : TE := fun σ H Q => ∃ ρ, ER K g ρ σ H ∧ Pst K g σ H W (fun p H' => ER K g p.2 σ H' → ∀ x, BR K g p.2 σ H' p.1 x → Q x H') (eBd g.ios f ρ)
theorem EOk.bd {f : Ex} (h : EOk g e f) (A : At g X) (tk : Takes X W) : PE X e (tBd X.K g f W) := by
  refine ⟨fun pins s σ H Q I ⟨ρ, R, q⟩ => ?_⟩
  unfold eBd at q
  cases hf : f ρ with
  | stuck => rw [hf] at q; exact q.elim
  | exc c ρ' =>
    rw [hf] at q
    exact (h X W A tk).run pins s σ H Q I ⟨ρ, R, by rw [hf]; exact q⟩
  | ok p =>
    obtain ⟨s', ρ'⟩ := p
    rw [hf] at q
    have q : Pst X.K g σ H W (fun p H' => ER X.K g p.2 σ H' → ∀ x, BR X.K g p.2 σ H' p.1 x → Q x H') (PL.bd g.ios s' ρ') := q
    refine thn ((h X W A tk).run pins s σ H (fun x H' => ER X.K g ρ' σ H' ∧ Ext H H' ∧ SR X.K g ρ' σ H' s' x) I ⟨ρ, R, by rw [hf]; exact fun H' b a x c => ⟨a, b, c⟩⟩) fun u s1 ⟨x, H1, I1, r1, R1, e1, sr⟩ => ?_
    cases s' with
    | v d => exact ⟨x, H1, I1, r1, q H1 e1 R1 x sr⟩
    | o d => exact ⟨x, H1, I1, r1, q H1 e1 R1 x sr⟩
    | b i =>
      unfold PL.bd at q
      obtain ⟨p, hp, q2⟩ := q.fz
      obtain ⟨H2, I2, R2, E2, im⟩ := fz_ok I1 R1 (z := .b i) (x := x) sr.1 (d := p.1) (ρ' := p.2) hp
      exact ⟨x, H2, I2, r1, q2 H2 (e1.trans E2) R2 x im⟩
/-- what is wanted behind statements -/
def PsS (K : PySem.W.Frag) (g : Cf) (H : Hp) (W : WX) (D : Ends) : Out Fl → Prop
  | .ok (.next ρ') => ∀ σ' H', Ext H H' → ER K g ρ' σ' H' → D.nx σ' H'
  | .ok (.ret s ρ') => ∀ σ' H' x, Ext H H' → ER K g ρ' σ' H' → BR K { g with io := g.io } [] [] H' s x → D.rt x H'
  | .ok (.brk ρ') => ∀ σ' H', Ext H H' → ER K g ρ' σ' H' → D.bk σ' H'
  | .ok (.cnt ρ') => ∀ σ' H', Ext H H' → ER K g ρ' σ' H' → D.ct σ' H'
  | .exc c ρ' => ∀ cls σ' H', Ext H H' → ER K g ρ' σ' H' → g.mg c = some cls → W cls none σ' H'
  | .stuck => False
def tS (K : PySem.W.Frag) (g : Cf) (f : Sx) (W : WX) : TS := fun D σ H => ∃ ρ, ER K g ρ σ H ∧ PsS K g H W D (f ρ)
/-- the context of a statement -/
structure AtS (g : Cf) (X : Cx) : Prop extends At g X where
  own : PassesOwn (model X.prog X.w) X.A X.env X.xe
  stk : X.stack = X.env :: X.outer
  fr : X.env.frame = some X.env.locals
def SOk (g : Cf) (st : Stmt) (f : Sx) : Prop := ∀ (X : Cx) (W : WX), AtS g X → Takes X W → PS X st (tS X.K g f W)
def SsOk (g : Cf) (st : List Stmt) (f : Sx) : Prop := ∀ (X : Cx) (W : WX), AtS g X → Takes X W → PSs X st (tS X.K g f W)
theorem PsS.ext {H H1 : Hp} {D : Ends} (e : Ext H H1) : ∀ {r : Out Fl}, PsS K g H W D r → PsS K g H1 W D r
  | .ok (.next _), q => fun σ' H' x => q σ' H' (e.trans x)
  | .ok (.ret _ _), q => fun σ' H' x y => q σ' H' x (e.trans y)
  | .ok (.brk _), q => fun σ' H' x => q σ' H' (e.trans x)
  | .ok (.cnt _), q => fun σ' H' x => q σ' H' (e.trans x)
  | .exc _ _, q => fun cls σ' H' x => q cls σ' H' (e.trans x)
  | .stuck, q => q
/-- from a statement's wish to the wish of its first reckoning, of any kind -/
theorem Ps_step {α : Type} {H : Hp} {σ : L2.St} {D : Ends} {G : α → Hp → Prop} {r : Out α} {k : α → Out Fl} (q : PsS K g H W D (r >>= k)) (h : ∀ p, r = .ok p → PsS K g H W D (k p) → ∀ H1, Ext H H1 → G p H1) : Pst K g σ H W G r := by
  cases r with
  | stuck => exact q.elim
  | exc c ρ1 => exact fun cls H' R x m => q cls σ H' x R m
  | ok p => exact fun H1 E1 => h p rfl q H1 E1
theorem PsS.opt {α : Type} {H : Hp} {D : Ends} {o : Option α} {k : α → Out Fl} (q : PsS K g H W D (liftO o >>= k)) : ∃ a, o = some a ∧ PsS K g H W D (k a) := by
  cases o with
  | none => exact q.elim
  | some a => exact ⟨a, rfl, q⟩
theorem PsS.pk {H : Hp} {D : Ends} {ρ : Rho} {s : S} {k : PL.D → Out Fl} (q : PsS K g H W D (PL.pk ρ s >>= k)) : ∃ d, PL.pk ρ s = .ok d ∧ PsS K g H W D (k d) := by
  cases h : PL.pk ρ s with
  | stuck => rw [h] at q; exact q.elim
  | exc c ρ' => exact (pk_noexc h).elim
  | ok d => rw [h] at q; exact ⟨d, rfl, q⟩
/-! ### blocks -/
def sSeq (f h : Sx) : Sx := fun ρ => f ρ >>= fun r => match r with
  | .next ρ' => h ρ'
  | .ret s ρ' => .ok (.ret s ρ')
  | .brk ρ' => .ok (.brk ρ')
  | .cnt ρ' => .ok (.cnt ρ')
def sNil : Sx := fun ρ => .ok (.next ρ)
variable {st : Stmt} {rest : List Stmt} {f h : Sx}
theorem ss_nil : SsOk g [] sNil := fun X W A tk => PSs.imp pss_nil fun D σ H ⟨ρ, R, q⟩ => q σ H (Ext.refl H) R
theorem ss_one (h1 : SOk g st f) : SsOk g [st] f := fun X W A tk => pss_one (h1 X W A tk)
theorem ss_cons (h1 : SOk g st f) (h2 : SsOk g rest h) : SsOk g (st :: rest) (sSeq f h) := fun X W A tk => by
  refine PSs.imp (pss_cons (h1 X W A tk) (h2 X W A tk)) fun D σ H ⟨ρ, R, q⟩ => ⟨ρ, R, ?_⟩
  unfold sSeq at q
  cases hf : f ρ with
  | stuck => rw [hf] at q; exact q.elim
  | exc c ρ1 => rw [hf] at q; exact q
  | ok p =>
    rw [hf] at q
    cases p with
    | next ρ' => exact fun σ' H' x R' => ⟨ρ', R', PsS.ext x q⟩
    | ret s ρ' => exact q
    | brk ρ' => exact q
    | cnt ρ' => exact q
theorem s_pass : SOk g (.Pass pos) sNil := fun X W A tk => PS.imp ps_pass fun D σ H ⟨ρ, R, q⟩ => q σ H (Ext.refl H) R
def sBrk : Sx := fun ρ => .ok (.brk ρ)
def sCnt : Sx := fun ρ => .ok (.cnt ρ)
theorem s_brk : SOk g (.Break pos) sBrk := fun X W A tk => PS.imp ps_break fun D σ H ⟨ρ, R, q⟩ => q σ H (Ext.refl H) R
theorem s_cnt : SOk g (.Continue pos) sCnt := fun X W A tk => PS.imp ps_continue fun D σ H ⟨ρ, R, q⟩ => q σ H (Ext.refl H) R
/-! ### expressions, returns -/
def sEx (f : Ex) : Sx := fun ρ => f ρ >>= fun p => .ok (.next p.2)
theorem s_ex {f : Ex} (h : EOk g e f) (hs : ∀ env, swapsWith e none pos.line env = pure false := by intro _; rfl) : SOk g (.Expr e pos) (sEx f) := fun X W A tk => by
  refine PS.imp (ps_expr (h.n A.toAt tk) (hs _)) fun D σ H ⟨ρ, R, q⟩ => ⟨ρ, R, Ps_step q fun p _ q1 H1 E1 R1 x n => q1 σ H1 E1 R1⟩
/-- what is handed back: an own object of the def is moved -/
def mv (l : List Nat) (s : S) (ρ : Rho) : Out (S × Rho) := match s with
  | .v d => .ok (.v d, ρ)
  | .o d => .ok (.o d, ρ)
  | .b i => if i ∈ l then .stuck else match ρ[i]? with
    | some (some (.o d)) => .ok (.o d, ρ)
    | some (some (.v d)) => .ok (.v d, ρ)
    | _ => .stuck
def sRet (l : List Nat) (f : Ex) : Sx := fun ρ => f ρ >>= fun p => mv l p.1 p.2 >>= fun r => .ok (.ret r.1 r.2)
theorem mv_ok {σ : L2.St} {H : Hp} {ρ ρ' : Rho} {s z : S} {x : V} (R : ER K g ρ σ H) (n : SR K g ρ σ H s x) (h : mv g.ios s ρ = .ok (z, ρ')) : ρ' = ρ ∧ BR K g [] [] H z x := by
  have no : ∀ a, ¬ Own ([] : Rho) ([] : L2.St) a := fun a ⟨i, d, h1, _⟩ => by simp at h1
  cases s with
  | v d => cases h; exact ⟨rfl, n⟩
  | o d =>
    cases h
    obtain ⟨a, h1, h2, h3, h4⟩ := n
    exact ⟨rfl, a, h1, h2, no a, h4⟩
  | b i =>
    obtain ⟨n1, d, n2⟩ := n
    simp only [mv] at h
    split at h
    · cases h
    · rename_i hio
      rw [n2] at h
      cases h
      obtain ⟨a, h1, h2⟩ := R.own i d n2
      rw [n1] at h1; cases h1
      refine ⟨rfl, a, rfl, h2, no a, (R.new i d a n2 n1).elim id fun z => (hio (List.mem_map.mpr ⟨_, z, rfl⟩)).elim⟩
theorem mv_noexc {l : List Nat} {ρ ρ' : Rho} {s : S} {c : Str} (h : mv l s ρ = .exc c ρ') : False := by
  cases s with
  | v d => cases h
  | o d => cases h
  | b i =>
    simp only [mv] at h
    split at h
    · cases h
    · split at h <;> cases h
theorem s_ret {f : Ex} (h : EOk g e f) : SOk g (.Return (some e) pos) (sRet g.ios f) := fun X W A tk => by
  refine PS.imp (ps_ret (h X W A.toAt tk)) fun D σ H ⟨ρ, R, q⟩ => ⟨ρ, R, Ps_step q fun p _ q1 H1 E1 R1 x n => ?_⟩
  cases hm : mv g.ios p.1 p.2 with
  | stuck => rw [hm] at q1; exact q1.elim
  | exc c ρ' => exact (mv_noexc hm).elim
  | ok r =>
    rw [hm] at q1
    obtain ⟨h1, h2⟩ := mv_ok R1 n (z := r.1) (ρ' := r.2) hm
    exact q1 σ H1 x E1 (by rw [h1]; exact R1) h2
def sRetN : Sx := fun ρ => .ok (.ret (.v .non) ρ)
theorem s_retN : SOk g (.Return none pos) sRetN := fun X W A tk => PS.imp ps_retN fun D σ H ⟨ρ, R, q⟩ => q σ H .non (Ext.refl H) R rfl
/-! ### names bound -/
theorem ER.set {σ : L2.St} {H : Hp} {ρ : Rho} {i : Nat} {s : S} {x : V} (R : ER K g ρ σ H) (b : BR K g ρ σ H s x) (hio : i ∉ g.ios) : ER K g (ρ.set i (some s)) (σ.set i (some x)) H := by
  have hl := R.len
  rcases Nat.lt_or_ge i ρ.length with hlt | hge
  · have hσ : i < σ.length := hl ▸ hlt
    have gρ : ∀ j, (ρ.set i (some s))[j]? = if j = i then some (some s) else ρ[j]? := fun j => by
      by_cases hj : j = i
      · subst hj; rw [if_pos rfl, List.getElem?_set_self hlt]
      · rw [if_neg hj, List.getElem?_set_ne (Ne.symm hj)]
    have gσ : ∀ j, (σ.set i (some x))[j]? = if j = i then some (some x) else σ[j]? := fun j => by
      by_cases hj : j = i
      · subst hj; rw [if_pos rfl, List.getElem?_set_self hσ]
      · rw [if_neg hj, List.getElem?_set_ne (Ne.symm hj)]
    have isO : ∀ {d}, s = .o d → ∃ a, x = .ref a ∧ OwnAt K H a d ∧ ¬ Own ρ σ a ∧ g.H0 a = none := fun {d} e => by subst e; exact b
    refine ⟨by rw [List.length_set, List.length_set]; exact hl, fun j d h => ?_, fun j d h => ?_, fun j m h => ?_, fun j m d d' a h1 h2 h3 h4 => ?_, R.old, fun j d a h1 h2 => ?_, fun p hp => ?_⟩
    · rw [gρ] at h
      rw [gσ]
      by_cases hj : j = i
      · rw [if_pos hj] at h ⊢
        cases h
        exact ⟨x, rfl, b⟩
      · rw [if_neg hj] at h ⊢
        exact R.val j d h
    · rw [gρ] at h
      rw [gσ]
      by_cases hj : j = i
      · rw [if_pos hj] at h ⊢
        cases h
        obtain ⟨a, rfl, h2, _⟩ := isO rfl
        exact ⟨a, rfl, h2⟩
      · rw [if_neg hj] at h ⊢
        exact R.own j d h
    · rw [gρ] at h
      by_cases hj : j = i
      · rw [if_pos hj] at h
        cases h
        exact b
      · rw [if_neg hj] at h
        exact R.bor j m h
    · rw [gρ] at h1 h2
      rw [gσ] at h3 h4
      by_cases hj : j = i
      · by_cases hm : m = i
        · rw [hj, hm]
        · rw [if_pos hj] at h1 h3
          rw [if_neg hm] at h2 h4
          cases h1
          obtain ⟨a', e, _, h7, _⟩ := isO rfl
          rw [e] at h3
          cases h3
          exact (h7 ⟨m, d', h2, h4⟩).elim
      · by_cases hm : m = i
        · rw [if_neg hj] at h1 h3
          rw [if_pos hm] at h2 h4
          cases h2
          obtain ⟨a', e, _, h7, _⟩ := isO rfl
          rw [e] at h4
          cases h4
          exact (h7 ⟨j, d, h1, h3⟩).elim
        · rw [if_neg hj] at h1 h3
          rw [if_neg hm] at h2 h4
          exact R.sep j m d d' a h1 h2 h3 h4
    · rw [gρ] at h1
      rw [gσ] at h2
      by_cases hj : j = i
      · rw [if_pos hj] at h1 h2
        cases h1
        obtain ⟨a', e, _, _, h8⟩ := isO rfl
        rw [e] at h2
        cases h2
        exact .inl h8
      · rw [if_neg hj] at h1 h2
        exact R.new j d a h1 h2
    · obtain ⟨h1, d, h2⟩ := R.io p hp
      have hj : p.1 ≠ i := fun z => hio (List.mem_map.mpr ⟨p, hp, z⟩)
      rw [gσ, if_neg hj]
      refine ⟨h1, d, ?_⟩
      rw [gρ, if_neg hj]
      exact h2
  · rw [List.set_eq_of_length_le hge, List.set_eq_of_length_le (hl ▸ hge)]
    exact R
def sSet (l : List Nat) (i : Nat) (f : Ex) : Sx := fun ρ => eBd l f ρ >>= fun p => if i ∈ l then .stuck else .ok (.next (p.2.set i (some p.1)))
/-- the name stands in slot i -/
structure Slot (g : Cf) (x : Str) (i : Nat) : Prop where
  nd : g.N.Nodup
  ix : g.N[i]? = some x
  loc : L2.Loc g.sc x
  fn : g.fn x = true ∨ g.sc.names.lookup x = some .local
theorem s_set {i : Nat} {x : Str} {f : Ex} {pos' : Pos} (sl : Slot g x i) (h : EOk g e f) (hs : ∀ env, env.scope = g.sc → swapsWith e (some (.Name x pos')) pos.line env = pure false := by intro _ _; rfl) : SOk g (.Assign [.Name x pos'] e pos) (sSet g.ios i f) := fun X W A tk => by
  refine PS.imp (ps_set (i := i) (by rw [A.N]; exact sl.nd) (by rw [A.N]; exact sl.ix) (by unfold L2.Loc; rw [A.sc]; exact sl.loc) (h.bd A.toAt tk) (hs _ A.sc) (by rw [A.sc]; exact sl.fn.imp (A.fn x) id)) fun D σ H ⟨ρ, R, q⟩ => ⟨ρ, R, Ps_step q fun p _ q1 H1 E1 R1 x b => ?_⟩
  split at q1
  · exact q1.elim
  · rename_i hio
    exact q1 _ H1 E1 (R1.set b hio)
/-! ### targets -/
abbrev Gx := D → Rho → Option Rho
abbrev Gxs := List D → Rho → Option Rho
/-- only the slots ts differ -/
def Chs (ts : List Nat) (σ σ' : L2.St) : Prop := σ'.length = σ.length ∧ ∀ j : Nat, j ∉ ts → σ'[j]? = σ[j]?
theorem Chs.refl (ts : List Nat) (σ : L2.St) : Chs ts σ σ := ⟨rfl, fun _ _ => rfl⟩
theorem Chs.trans {ts us : List Nat} {σ σ' σ'' : L2.St} (a : Chs ts σ σ') (b : Chs us σ' σ'') : Chs (ts ++ us) σ σ'' :=
  ⟨b.1.trans a.1, fun j hj => (b.2 j fun z => hj (List.mem_append_right _ z)).trans (a.2 j fun z => hj (List.mem_append_left _ z))⟩
def PsG (K : PySem.W.Frag) (g : Cf) (ts : List Nat) (σ : L2.St) (H : Hp) (Q : L2.St → Hp → Prop) : Option Rho → Prop
  | some ρ' => ∀ σ' H', Chs ts σ σ' → Ext H H' → ER K g ρ' σ' H' → Q σ' H'
  | _ => False
def tGx (K : PySem.W.Frag) (g : Cf) (ts : List Nat) (f : Gx) : TG := fun v σ H Q => ∃ ρ d, ER K g ρ σ H ∧ Imm K H d v ∧ PsG K g ts σ H Q (f d ρ)
def tGxs (K : PySem.W.Frag) (g : Cf) (ts : List Nat) (f : Gxs) : TGs := fun vs σ H Q => ∃ ρ ds, ER K g ρ σ H ∧ ImmL K H ds vs ∧ PsG K g ts σ H Q (f ds ρ)
def GOk (g : Cf) (e : Expr) (ts : List Nat) (f : Gx) : Prop := ∀ (X : Cx), At g X → PG X e (tGx X.K g ts f)
def GsOk (g : Cf) (es : List Expr) (ts : List Nat) (f : Gxs) : Prop := ∀ (X : Cx), At g X → PGs X es (tGxs X.K g ts f)
theorem PG.imp {X : Cx} {e : Expr} {t t' : TG} (h : PG X e t) (hi : ∀ v σ H Q, t' v σ H Q → t v σ H Q) : PG X e t' := ⟨fun pins s σ H v u Q I r q => h.run pins s σ H v u Q I r (hi v σ H Q q)⟩
theorem PGs.imp {X : Cx} {e : List Expr} {t t' : TGs} (h : PGs X e t) (hi : ∀ v σ H Q, t' v σ H Q → t v σ H Q) : PGs X e t' := ⟨fun pins s σ H v u Q I r q => h.run pins s σ H v u Q I r (hi v σ H Q q)⟩
theorem PG.or {X : Cx} {e : Expr} {t t' : TG} (h : PG X e t) (h' : PG X e t') : PG X e (fun v σ H Q => t v σ H Q ∨ t' v σ H Q) := ⟨fun pins s σ H v u Q I r q => by
  rcases q with q | q
  · exact h.run pins s σ H v u Q I r q
  · exact h'.run pins s σ H v u Q I r q⟩
def gNm (l : List Nat) (i : Nat) : Gx := fun d ρ => if i ∈ l then none else some (ρ.set i (some (.v d)))
theorem g_nm {i : Nat} {x : Str} (sl : Slot g x i) : GOk g (.Name x pos) [i] (gNm g.ios i) := fun X A => by
  refine PG.imp (pg_name (i := i) (by rw [A.N]; exact sl.nd) (by rw [A.N]; exact sl.ix) (by unfold L2.Loc; rw [A.sc]; exact sl.loc) (by rw [A.sc]; exact sl.fn.imp (A.fn x) id)) fun v σ H Q ⟨ρ, d, R, im, q⟩ => ?_
  unfold gNm at q
  split at q
  · exact q.elim
  · rename_i hio
    exact q _ H ⟨by rw [List.length_set], fun j hj => List.getElem?_set_ne (fun z => hj (by rw [← z]; exact List.mem_singleton_self _))⟩ (Ext.refl H) (R.set (s := .v d) im hio)
def gsNil : Gxs := fun ds ρ => match ds with
  | [] => some ρ
  | _ => none
def gsCons (f : Gx) (r : Gxs) : Gxs := fun ds ρ => match ds with
  | d :: ds => (f d ρ).bind fun ρ' => r ds ρ'
  | [] => none
theorem gs_nil : GsOk g [] [] gsNil := fun X A => PGs.imp pgs_nil fun vs σ H Q ⟨ρ, ds, R, im, q⟩ => by
  cases ds with
  | nil => exact ⟨im, q σ H (Chs.refl _ _) (Ext.refl H) R⟩
  | cons d ds => exact q.elim
theorem gs_cons {f : Gx} {r : Gxs} {ts us : List Nat} (h : GOk g e ts f) (hr : GsOk g es us r) (hs : ∀ env, (assignEach (e :: es) env).map (·.2) = assign e env :: (assignEach es env).map (·.2) := by intro _; rfl) : GsOk g (e :: es) (ts ++ us) (gsCons f r) := fun X A => by
  refine PGs.imp (pgs_cons (h X A) (hr X A) (hs _)) fun vs σ H Q ⟨ρ, ds, R, im, q⟩ => ?_
  cases ds with
  | nil => exact q.elim
  | cons d ds =>
    obtain ⟨v, r', e, im1, im2⟩ := im
    refine ⟨v, r', e, ρ, d, R, im1, ?_⟩
    simp only [gsCons] at q
    cases hf : f d ρ with
    | none => rw [hf] at q; exact q.elim
    | some ρ1 =>
      rw [hf] at q
      intro σ1 H1 C1 E1 R1
      refine ⟨ρ1, ds, R1, ImmL.ext E1 _ _ im2, ?_⟩
      simp only [Option.bind_some] at q
      cases hr : r ds ρ1 with
      | none => rw [hr] at q; exact q.elim
      | some ρ2 => rw [hr] at q; exact fun σ2 H2 C2 E2 R2 => q σ2 H2 (C1.trans C2) (E1.trans E2) R2
def gTp (n : Nat) (r : Gxs) : Gx := fun d ρ => match d with
  | .tup ds => if ds.length = n then r ds ρ else none
  | .lst ds => if ds.length = n then r ds ρ else none
  | .ktp ds => if ds.length = n then r ds ρ else none
  | _ => none
theorem g_tp {k n : Nat} {r : Gxs} {ts : List Nat} (h : GsOk g es ts r) (hn : ∀ env, (assignEach es env).length = n := by intro _; rfl) (hst : ∀ env, (assignEach es env).findIdx? (·.1) = none := by intro _; rfl) : GOk g (.Tuple es k pos) ts (gTp n r) := fun X A => by
  refine PG.imp (PG.or (pg_tup A.calm (h X A) (hn _) (hst _)) (pg_lst A.calm (h X A) (hn _) (hst _))) fun v σ H Q ⟨ρ, d, R, im, q⟩ => ?_
  unfold gTp at q
  cases d with
  | tup ds =>
    dsimp only at q
    split at q
    · rename_i hl
      obtain ⟨a, vs, e, s1, i1⟩ := im
      exact .inl ⟨a, vs, e, s1.seq, by rw [i1.len]; exact hl, ρ, ds, R, i1, q⟩
    · exact q.elim
  | lst ds =>
    dsimp only at q
    split at q
    · rename_i hl
      obtain ⟨a, vs, e, s1, i1⟩ := im
      exact .inr ⟨a, vs, e, s1.seq, by rw [i1.len]; exact hl, ρ, ds, R, i1, q⟩
    · exact q.elim
  | ktp ds =>
    dsimp only at q
    split at q
    · rename_i hl
      obtain ⟨a, vs, e, s1, i1⟩ := im
      exact .inl ⟨a, vs, e, s1.seq, by rw [i1.len]; exact hl, ρ, ds, R, i1, q⟩
    · exact q.elim
  | _ => exact q.elim
/-- target = e -/
def sAsg (l : List Nat) (f : Ex) (t : Gx) : Sx := fun ρ => eF l f ρ >>= fun p => liftO (t p.1 p.2) >>= fun ρ' => .ok (.next ρ')
theorem s_asg {tg : Expr} {f : Ex} {t : Gx} {ts : List Nat} (h : EOk g e f) (hg : GOk g tg ts t) (hs : ∀ env, swapsWithSole [tg] e pos.line env = pure false := by intro _; rfl) (hw : ∀ env, swappedStores [tg] e env = pure none := by intro _; rfl)
    (h1 : ∀ env, (assignEach [tg] env).map (·.2) = [assign tg env] := by intro _; rfl) : SOk g (.Assign [tg] e pos) (sAsg g.ios f t) := fun X W A tk => by
  refine PS.imp (ps_asg (h.f A.toAt tk) (hg X A.toAt) (hs _) (hw _) (h1 _)) fun D σ H ⟨ρ, R, q⟩ => ⟨ρ, R, Ps_step q fun p _ q1 H1 E1 R1 x im => ⟨p.2, p.1, R1, im, ?_⟩⟩
  obtain ⟨ρ2, ht, q2⟩ := q1.opt
  rw [ht]
  exact fun σ2 H2 _ E2 R2 => q2 σ2 H2 (E1.trans E2) R2
end
end PL

namespace PL
open PySem PySem.Spec PyProof.Rows L2
section
variable {g : Cf} {X : Cx} {e a b c tg : Expr} {es : List Expr} {pos : Pos} {K : PySem.W.Frag} {W : WX} {body orelse : List Stmt} {f h : Sx} {t : Tx}
/-! ### if -/
def sIf (t : Tx) (f h : Sx) : Sx := fun ρ => t ρ >>= fun p => if p.1 = true then f p.2 else h p.2
theorem s_if (hc : TOk g c t) (ha : SsOk g body f) (hb : SsOk g orelse h) : SOk g (.If c body orelse pos) (sIf t f h) := fun X W A tk => by
  refine PS.imp (ps_if (hc X W A.toAt tk) (ha X W A tk) (hb X W A tk)) fun D σ H ⟨ρ, R, q⟩ => ⟨ρ, R, Ps_step q fun p _ q1 H1 E1 R1 => ?_⟩
  cases hp : p.1 with
  | true => rw [hp] at q1; exact iteT ⟨p.2, R1, PsS.ext E1 q1⟩
  | false => rw [hp] at q1; exact iteF ⟨p.2, R1, PsS.ext E1 q1⟩
/-! ### loops -/
def aft (k : Sx) : Fl → Out Fl
  | .next ρ' => k ρ'
  | .cnt ρ' => k ρ'
  | .brk ρ' => .ok (.next ρ')
  | .ret s ρ' => .ok (.ret s ρ')
theorem aft_ps {H : Hp} {D : Ends} {r : Out Fl} {k : Sx} {N : L2.St → Hp → Prop} (q : PsS K g H W D (r >>= aft k)) (hN : ∀ ρ' σ' H', Ext H H' → ER K g ρ' σ' H' → PsS K g H' W D (k ρ') → N σ' H') : PsS K g H W { D with nx := N, ct := N, bk := D.nx } r := by
  cases r with
  | stuck => exact q.elim
  | exc c ρ1 => exact q
  | ok p =>
    cases p with
    | next ρ' => exact fun σ' H' x R => hN ρ' σ' H' x R (PsS.ext x q)
    | cnt ρ' => exact fun σ' H' x R => hN ρ' σ' H' x R (PsS.ext x q)
    | brk ρ' => exact q
    | ret s ρ' => exact q
def sWh (t : Tx) (f : Sx) : Nat → Sx
  | 0, _ => .stuck
  | n + 1, ρ => t ρ >>= fun p => if p.1 = true then f p.2 >>= aft (sWh t f n) else .ok (.next p.2)
theorem s_wh (n : Nat) (hc : TOk g c t) (hb : SsOk g body f) : SOk g (.While c body [] pos) (sWh t f n) := fun X W A tk => by
  refine PS.imp (ps_while A.own (hc X W A.toAt tk) (hb X W A tk)) fun D σ H ⟨ρ, R, q⟩ => ?_
  refine ⟨fun m σ H => ∃ ρ, ER X.K g ρ σ H ∧ PsS X.K g H W D (sWh t f m ρ), ⟨n, ρ, R, q⟩, ?_⟩
  rintro m σ H ⟨ρ, R, q⟩
  cases m with
  | zero => exact q.elim
  | succ m =>
    refine ⟨ρ, R, Ps_step q fun p _ q1 H1 E1 R1 => ?_⟩
    cases hp : p.1 with
    | false =>
      rw [hp] at q1
      exact iteF (q1 σ H1 E1 R1)
    | true =>
      rw [hp] at q1
      refine iteT ⟨fun σ' H' => ∃ ρ, ER X.K g ρ σ' H' ∧ PsS X.K g H' W D (sWh t f m ρ), fun σ' H' hN => ⟨m, Nat.lt_succ_self m, hN⟩, p.2, R1, ?_⟩
      exact aft_ps (PsS.ext E1 q1) fun ρ' σ' H' x R' q' => ⟨ρ', R', q'⟩
/-! ### what is walked -/
abbrev Ix := Rho → Out (List D × Rho)
def ItOk (K : PySem.W.Frag) (J : It) (ds : List D) (H : Hp) : Prop :=
  ∃ (G : Hp → Prop) (Y : Nat → Hp → V → Hp → Prop), Walk J ds.length G Y ∧ G H ∧ (∀ H1 H2, Ext H1 H2 → G H1 → G H2) ∧
    ∀ i H1 x H2, i < ds.length → G H1 → Y i H1 x H2 → Same H1 H2 ∧ ∃ d, ds[i]? = some d ∧ Imm K H2 d x
def tI (K : PySem.W.Frag) (g : Cf) (f : Ix) (W : WX) : TI := fun σ H R => ∃ ρ, ER K g ρ σ H ∧ Pst K g σ H W (fun p H' => ER K g p.2 σ H' → ∀ J, ItOk K J p.1 H' → R J H') (f ρ)
def IOk (g : Cf) (tg e : Expr) (f : Ix) : Prop := ∀ (X : Cx) (W : WX), At g X → Takes X W → PI X tg e (tI X.K g f W)
def lp (t : Gx) (f : Sx) : List D → Sx
  | [], ρ => .ok (.next ρ)
  | d :: ds, ρ => liftO (t d ρ) >>= fun ρ1 => f ρ1 >>= aft (lp t f ds)
def sFor (i : Ix) (t : Gx) (f : Sx) : Sx := fun ρ => i ρ >>= fun p => lp t f p.1 p.2
theorem s_for {i : Ix} {tx : Gx} {ts : List Nat} (hi : IOk g tg e i) (ht : GOk g tg ts tx) (hb : SsOk g body f) (hs : ∀ env x, foldedSetIterable e env x = pure x := by intro _ _; rfl) : SOk g (.For tg e body [] pos) (sFor i tx f) := fun X W A tk => by
  refine PS.imp (ps_for A.own A.calm (hi X W A.toAt tk) (ht X A.toAt) (hb X W A tk) (hs _)) fun D σ H ⟨ρ, R, q⟩ => ⟨ρ, R, Ps_step q fun p _ q1 H1 E1 R1 J it => ?_⟩
  obtain ⟨ds, ρ1⟩ := p
  obtain ⟨G, Y, w, g1, gs, y⟩ := it
  refine for_it w (fun i σ H => G H ∧ ∃ ρ, ER X.K g ρ σ H ∧ PsS X.K g H W D (lp tx f (ds.drop i) ρ)) ⟨g1, ρ1, R1, PsS.ext E1 q1⟩ (fun i σ H _ h => h.1) (fun i x σ2 H2 H3 hi h hy => ?_) (fun σ2 H2 h => ?_)
  · obtain ⟨g2, ρ2, R2, q2⟩ := h
    obtain ⟨sm, d, hd, im⟩ := y i H2 x H3 hi g2 hy
    have hdrop : ds.drop i = d :: ds.drop (i + 1) := by
      have e1 := List.drop_eq_getElem_cons hi
      rw [List.getElem?_eq_getElem hi] at hd
      rw [e1, Option.some.inj hd]
    rw [hdrop] at q2
    obtain ⟨ρ3, ht3, q3⟩ := q2.opt
    refine ⟨ρ2, d, R2.same sm, im, ?_⟩
    rw [ht3]
    intro σ4 H4 _ E4 R4
    refine ⟨ρ3, R4, aft_ps (PsS.ext ((Ext.of_same sm).trans E4) q3) fun ρ' σ' H' x R' q' => ⟨gs _ _ ((Ext.of_same sm).trans (E4.trans x)) g2, ρ', R', q'⟩⟩
  · obtain ⟨_, ρ2, R2, q2⟩ := h
    rw [List.drop_length] at q2
    exact q2 σ2 H2 (Ext.refl _) R2
/-! ### lists, tuples, texts, dicts' keys -/
theorem PI.or {X : Cx} {tg e : Expr} {t t' : TI} (h : PI X tg e t) (h' : PI X tg e t') : PI X tg e (fun σ H R => t σ H R ∨ t' σ H R) := ⟨fun pins s σ H R I q => by
  rcases q with q | q
  · exact h.run pins s σ H R I q
  · exact h'.run pins s σ H R I q⟩
def dIter : D → Option (List D)
  | .tup ds => some ds
  | .lst ds => some ds
  | .scr ns => some (ns.map .int)
  | .ktp ds => some ds
  | .str z => some (z.cps.toList.map fun c => .str ⟨#[c]⟩)
  | .dic _ kvs => some (kvs.map (·.1))
  | _ => none
theorem walkImm {K : PySem.W.Frag} {ds : List D} {vs : List V} {G : Hp → Prop} (im : ∀ H, G H → ImmL K H ds vs) : ∀ i H1 x H2, i < ds.length → G H1 → YAt vs i H1 x H2 → Same H1 H2 ∧ ∃ d, ds[i]? = some d ∧ Imm K H2 d x := fun i H1 x H2 hi hg hy => by
  obtain ⟨rfl, h2⟩ := hy
  exact ⟨Same.refl _, (im H2 hg).get h2⟩
theorem it_tup {K : PySem.W.Frag} {H : Hp} {ds : List D} {vs : List V} {a : Addr} (h1 : TpT K H a vs) (h2 : ImmL K H ds vs) : ItOk K (Itt K a) ds H := by
  refine ⟨fun H => TpT K H a vs ∧ ImmL K H ds vs, YAt vs, ?_, ⟨h1, h2⟩, fun H1 H2 e g => ⟨e.sqT g.1, ImmL.ext e _ _ g.2⟩, walkImm fun H g => g.2⟩
  rw [← h2.len]
  exact walk_tup.mono (fun H g => g.1.seq) fun _ _ _ _ _ _ y => y
theorem it_ktp {K : PySem.W.Frag} {H : Hp} {ds : List D} {vs : List V} {a : Addr} (h1 : KtT K a vs) (h2 : ImmL K H ds vs) : ItOk K (Itt K a) ds H := by
  refine ⟨fun H => KtT K a vs ∧ ImmL K H ds vs, YAt vs, ?_, ⟨h1, h2⟩, fun H1 H2 e g => ⟨g.1, ImmL.ext e _ _ g.2⟩, walkImm fun H g => g.2⟩
  rw [← h2.len]
  exact walk_tup.mono (fun H g => g.1.seq) fun _ _ _ _ _ _ y => y
theorem it_lst {K : PySem.W.Frag} {H : Hp} {ds : List D} {vs : List V} {a : Addr} (h1 : FzL K H a vs) (h2 : ImmL K H ds vs) : ItOk K (Itl K a) ds H := by
  refine ⟨fun H => FzL K H a vs ∧ ImmL K H ds vs, YAt vs, ?_, ⟨h1, h2⟩, fun H1 H2 e g => ⟨e.fzL g.1, ImmL.ext e _ _ g.2⟩, walkImm fun H g => g.2⟩
  rw [← h2.len]
  exact walk_list.mono (fun H g => g.1.seq) fun _ _ _ _ _ _ y => y
theorem it_scr {K : PySem.W.Frag} {H : Hp} {ns : List Int} {a : Addr} (h1 : ScrL K H a (ns.map V.int)) : ItOk K (Itl K a) (ns.map .int) H := by
  refine ⟨fun H => ScrL K H a (ns.map V.int), YAt (ns.map V.int), ?_, h1, fun H1 H2 e g => e.scrL g, walkImm fun H g => immL_map_int ns⟩
  have := (walk_list (K := K) (a := a) (xs := ns.map V.int)).mono (G' := fun H => ScrL K H a (ns.map V.int)) (fun H g => g.seq) fun _ _ _ _ _ _ y => y
  rw [List.length_map] at this ⊢
  exact this
theorem it_str {K : PySem.W.Frag} {H : Hp} {z : Str} : ItOk K (Its z) (z.cps.toList.map fun c => .str ⟨#[c]⟩) H := by
  refine ⟨fun _ => True, fun i H v H' => H' = H ∧ ∃ c, z.cps[i]? = some c ∧ v = .str ⟨#[c]⟩, ?_, trivial, fun _ _ _ g => g, fun i H1 x H2 hi _ hy => ?_⟩
  · have := walk_str (z := z)
    rw [List.length_map, Array.length_toList]
    exact this
  · obtain ⟨rfl, c, h1, rfl⟩ := hy
    refine ⟨Same.refl _, .str ⟨#[c]⟩, ?_, rfl⟩
    rw [List.getElem?_map, Array.getElem?_toList, h1]
    rfl
theorem immK_get {K : PySem.W.Frag} {H : Hp} : ∀ {kvs : List (D × D)} {kws : List (Key × V)} {i : Nat} {k : Key} {v : V}, ImmK K H kvs kws → kws[i]? = some (k, v) → ∃ kd d, kvs[i]? = some (kd, d) ∧ keyD kd = some k ∧ Imm K H d v
  | [], _, _, _, _, h, e => by cases (show _ = _ from h); simp at e
  | (kd, d) :: ds, _, 0, k, x, ⟨kk, v, r, e1, h0, h1, h2⟩, e => by subst e1; simp at e; obtain ⟨rfl, rfl⟩ := e; exact ⟨kd, d, rfl, h0, h1⟩
  | (kd, d) :: ds, _, i + 1, k, x, ⟨kk, v, r, e1, h0, h1, h2⟩, e => by
    subst e1
    obtain ⟨kd', d', h3, h4⟩ := immK_get (i := i) (k := k) (v := x) h2 (by simpa using e)
    exact ⟨kd', d', by simpa using h3, h4⟩
theorem immK_len {K : PySem.W.Frag} {H : Hp} : ∀ {ds : List (D × D)} {vs : List (Key × V)}, ImmK K H ds vs → vs.length = ds.length
  | [], _, h => by cases (show _ = _ from h); rfl
  | (_, d) :: ds, _, ⟨_, v, r, e1, _, h1, h2⟩ => by rw [e1, List.length_cons, List.length_cons, immK_len h2]
theorem imm_key {K : PySem.W.Frag} {H : Hp} {d : D} {k : Key} (h : keyD d = some k) : Imm K H d (kV k) := by
  cases d <;> cases h <;> rfl
theorem immL_keys {K : PySem.W.Frag} {H : Hp} : ∀ {ds : List D} {ks : List Key}, keysD ds = some ks → ImmL K H ds (ks.map kV)
  | [], _, h => by cases h; rfl
  | d :: ds, ks, h => by
    unfold keysD at h
    cases h1 : keyD d with
    | none => rw [h1] at h; cases h
    | some k =>
      rw [h1] at h
      cases h2 : keysD ds with
      | none => rw [h2] at h; cases h
      | some ks' =>
        rw [h2] at h
        cases h
        exact ⟨_, _, rfl, imm_key h1, immL_keys h2⟩
theorem immT_get {K : PySem.W.Frag} {H : Hp} : ∀ {kvs : List (D × D)} {kws : List (List Key × V)} {i : Nat} {k : List Key} {v : V}, ImmT K H kvs kws → kws[i]? = some (k, v) → ∃ kd d, kvs[i]? = some (.tup kd, d) ∧ keysD kd = some k ∧ Imm K H d v
  | [], _, _, _, _, h, e => by cases (show _ = _ from h); simp at e
  | (.tup kd, d) :: ds, _, 0, k, x, ⟨kk, v, r, e1, h0, h1, h2⟩, e => by subst e1; simp at e; obtain ⟨rfl, rfl⟩ := e; exact ⟨kd, d, rfl, h0, h1⟩
  | (.tup kd, d) :: ds, _, i + 1, k, x, ⟨kk, v, r, e1, h0, h1, h2⟩, e => by
    subst e1
    obtain ⟨kd', d', h3, h4⟩ := immT_get (i := i) (k := k) (v := x) h2 (by simpa using e)
    exact ⟨kd', d', by simpa using h3, h4⟩
  | (.non, _) :: _, _, _, _, _, h, _ => h.elim
  | (.bl _, _) :: _, _, _, _, _, h, _ => h.elim
  | (.int _, _) :: _, _, _, _, _, h, _ => h.elim
  | (.str _, _) :: _, _, _, _, _, h, _ => h.elim
  | (.lst _, _) :: _, _, _, _, _, h, _ => h.elim
  | (.dic _ _, _) :: _, _, _, _, _, h, _ => h.elim
  | (.scr _, _) :: _, _, _, _, _, h, _ => h.elim
  | (.ktp _, _) :: _, _, _, _, _, h, _ => h.elim
theorem immT_len {K : PySem.W.Frag} {H : Hp} : ∀ {ds : List (D × D)} {vs : List (List Key × V)}, ImmT K H ds vs → vs.length = ds.length
  | [], _, h => by cases (show _ = _ from h); rfl
  | (.tup _, d) :: ds, _, ⟨_, v, r, e1, _, h1, h2⟩ => by rw [e1, List.length_cons, List.length_cons, immT_len h2]
  | (.non, _) :: _, _, h => h.elim
  | (.bl _, _) :: _, _, h => h.elim
  | (.int _, _) :: _, _, h => h.elim
  | (.str _, _) :: _, _, h => h.elim
  | (.lst _, _) :: _, _, h => h.elim
  | (.dic _ _, _) :: _, _, h => h.elim
  | (.scr _, _) :: _, _, h => h.elim
  | (.ktp _, _) :: _, _, h => h.elim
theorem it_dk {K : PySem.W.Frag} {H : Hp} {kvs : List (D × D)} {kws : List (Key × V)} {a : Addr} {o : Obj} (h1 : H a = some (.frz o (.dK kws))) (h2 : ImmK K H kvs kws) : ItOk K (Itk a o kws) (kvs.map (·.1)) H := by
  refine ⟨fun H => H a = some (.frz o (.dK kws)) ∧ ImmK K H kvs kws, fun i H x H' => H' = H ∧ ∃ k v, kws[i]? = some (k, v) ∧ x = kV k, ?_, ⟨h1, h2⟩, fun H1 H2 e g => ⟨e.frz g.1, ImmK.ext e _ _ g.2⟩, fun i H1 x H2 hi hg hy => ?_⟩
  · have w := (walk_keys (d := a) (o := o) (kvs := kws)).mono (G' := fun H => H a = some (.frz o (.dK kws)) ∧ ImmK K H kvs kws) (fun H g => g.1) fun _ _ _ _ _ _ y => y
    rw [List.length_map, ← immK_len h2]
    exact w
  · obtain ⟨rfl, k, v, h3, rfl⟩ := hy
    obtain ⟨kd, d, h4, h5, _⟩ := immK_get hg.2 h3
    exact ⟨Same.refl _, kd, by rw [List.getElem?_map, h4]; rfl, imm_key h5⟩
theorem it_dt {K : PySem.W.Frag} {H : Hp} {kvs : List (D × D)} {kws : List (List Key × V)} {a : Addr} {o : Obj} (h1 : H a = some (.frz o (.dT kws))) (h2 : ImmT K H kvs kws) : ItOk K (Itkt a o kws) (kvs.map (·.1)) H := by
  refine ⟨fun H => H a = some (.frz o (.dT kws)) ∧ ImmT K H kvs kws, fun i H x H' => H' = H ∧ ∃ (k : List Key) (v : V) (q : Addr), kws[i]? = some (k, v) ∧ x = .ref q ∧ H q = some (.tup (k.map kV)), ?_, ⟨h1, h2⟩, fun H1 H2 e g => ⟨e.frz g.1, ImmT.ext e _ _ g.2⟩, fun i H1 x H2 hi hg hy => ?_⟩
  · have w := (walk_keysT (d := a) (o := o) (kvs := kws)).mono (G' := fun H => H a = some (.frz o (.dT kws)) ∧ ImmT K H kvs kws) (fun H g => g.1) fun _ _ _ _ _ _ y => y
    rw [List.length_map, ← immT_len h2]
    exact w
  · obtain ⟨rfl, k, v, q, h3, rfl, h6⟩ := hy
    obtain ⟨kd, d, h4, h5, _⟩ := immT_get hg.2 h3
    exact ⟨Same.refl _, .tup kd, by rw [List.getElem?_map, h4]; rfl, q, _, rfl, TpT.of h6, immL_keys h5⟩
def iVal (l : List Nat) (f : Ex) : Ix := fun ρ => eF l f ρ >>= fun p => liftO (dIter p.1) >>= fun ds => .ok (ds, p.2)
theorem i_val {f : Ex} (h : EOk g e f) : IOk g tg e (iVal g.ios f) := fun X W A tk => by
  have hf := h.f A tk
  refine PI.imp (PI.or (pi_list hf) (PI.or (pi_tup hf) (PI.or (pi_str hf) (pi_keys hf)))) fun σ H Q ⟨ρ, R, q⟩ => ?_
  have key : ∀ {Q1 : VK}, (∀ d ρ1 x H1, ER X.K g ρ1 σ H1 → Imm X.K H1 d x → (∀ ds, dIter d = some ds → ∀ J, ItOk X.K J ds H1 → Q J H1) → (∃ ds, dIter d = some ds) → (∃ ρ0, eF g.ios f ρ = .ok (d, ρ0)) → Q1 x H1) → tF X.K g f W σ H Q1 := fun {Q1} hk => by
    refine ⟨ρ, R, ?_⟩
    unfold iVal at q
    cases hf : eF g.ios f ρ with
    | stuck => rw [hf] at q; exact q.elim
    | exc c ρ1 => rw [hf] at q; exact q
    | ok p =>
      rw [hf] at q
      intro H1 E1 R1 x im
      obtain ⟨ds, hd, q2⟩ := q.opt
      exact hk p.1 p.2 x H1 R1 im (fun ds' e' J it => by rw [hd] at e'; cases e'; exact q2 H1 E1 R1 J it) ⟨ds, hd⟩ ⟨p.2, hf⟩
  cases hf2 : eF g.ios f ρ with
  | stuck => unfold iVal at q; rw [hf2] at q; exact q.elim
  | exc c ρ1 => exact .inl (key fun d ρ1 x H1 R1 im hJ hd ⟨ρ0, h0⟩ => by rw [hf2] at h0; cases h0)
  | ok p =>
    obtain ⟨d0, ρ0'⟩ := p
    have same : ∀ {d ρ0}, eF g.ios f ρ = .ok (d, ρ0) → d = d0 := fun {d ρ0} h0 => by rw [hf2] at h0; cases h0; rfl
    cases d0 with
    | lst ds =>
      refine .inl (key fun d ρ1 x H1 R1 im hJ hd ⟨ρ0, h0⟩ => ?_)
      cases same h0
      obtain ⟨a, vs, rfl, s1, i1⟩ := im
      exact ⟨a, rfl, ⟨vs, s1.seq⟩, hJ ds rfl _ (it_lst s1 i1)⟩
    | scr ns =>
      refine .inl (key fun d ρ1 x H1 R1 im hJ hd ⟨ρ0, h0⟩ => ?_)
      cases same h0
      obtain ⟨a, rfl, s1⟩ := im
      exact ⟨a, rfl, ⟨_, s1.seq⟩, hJ _ rfl _ (it_scr s1)⟩
    | tup ds =>
      refine .inr (.inl (key fun d ρ1 x H1 R1 im hJ hd ⟨ρ0, h0⟩ => ?_))
      cases same h0
      obtain ⟨a, vs, rfl, s1, i1⟩ := im
      exact ⟨a, rfl, ⟨vs, s1.seq⟩, hJ ds rfl _ (it_tup s1 i1)⟩
    | ktp ds =>
      refine .inr (.inl (key fun d ρ1 x H1 R1 im hJ hd ⟨ρ0, h0⟩ => ?_))
      cases same h0
      obtain ⟨a, vs, rfl, s1, i1⟩ := im
      exact ⟨a, rfl, ⟨vs, s1.seq⟩, hJ ds rfl _ (it_ktp s1 i1)⟩
    | str z =>
      refine .inr (.inr (.inl (key fun d ρ1 x H1 R1 im hJ hd ⟨ρ0, h0⟩ => ?_)))
      cases same h0
      exact ⟨z, im, hJ _ rfl _ it_str⟩
    | dic t kvs =>
      refine .inr (.inr (.inr (key fun d ρ1 x H1 R1 im hJ hd ⟨ρ0, h0⟩ => ?_)))
      cases same h0
      cases t with
      | false => obtain ⟨a, o, kws, rfl, h1, h2⟩ := im; exact ⟨a, o, rfl, .inl ⟨kws, h1, hJ _ rfl _ (it_dk h1 h2)⟩⟩
      | true => obtain ⟨a, o, kws, rfl, h1, h2⟩ := im; exact ⟨a, o, rfl, .inr ⟨kws, h1, hJ _ rfl _ (it_dt h1 h2)⟩⟩
    | _ => exact .inl (key fun d ρ1 x H1 R1 im hJ hd ⟨ρ0, h0⟩ => by cases same h0; obtain ⟨ds, hd⟩ := hd; cases hd)
/-! ### range -/
def rgD (lo : Int) (n : Nat) : List D := (List.range n).map fun k : Nat => .int (lo + k)
theorem it_rg {K : PySem.W.Frag} {H : Hp} {lo : Int} {n : Nat} : ItOk K (Itr lo n) (rgD lo n) H := by
  refine ⟨fun _ => True, YFn fun i => .int (lo + i), ?_, trivial, fun _ _ _ g => g, fun i H1 x H2 hi _ hy => ?_⟩
  · have w := walk_range (lo := lo) (n := n)
    rw [rgD, List.length_map, List.length_range]
    exact w
  · obtain ⟨rfl, rfl⟩ := hy
    rw [rgD, List.length_map, List.length_range] at hi
    refine ⟨Same.refl _, .int (lo + i), ?_, rfl⟩
    rw [rgD, List.getElem?_map, List.getElem?_range hi]
    rfl
def int1 : List D → Option Int
  | [.int j] => if -4611686018427387904 ≤ j ∧ j < 4611686018427387904 then some j else none
  | _ => none
def int2 : List D → Option (Int × Int)
  | [.int i, .int j] => if -4611686018427387904 ≤ i ∧ i < 4611686018427387904 ∧ -4611686018427387904 ≤ j ∧ j < 4611686018427387904 then some (i, j) else none
  | _ => none
def iRg1 (fa : Ax) : Ix := fun ρ => fa ρ >>= fun p => pkL p.2 p.1 >>= fun ds => liftO (int1 ds) >>= fun j => .ok (rgD 0 j.toNat, p.2)
def iRg2 (fa : Ax) : Ix := fun ρ => fa ρ >>= fun p => pkL p.2 p.1 >>= fun ds => liftO (int2 ds) >>= fun j => .ok (rgD j.1 (j.2 - j.1).toNat, p.2)
theorem i_rg1 {p : Pos} {fa : Ax} (hm : g.mg "range" = none) (ha : AOk g [a] fa) (hg : Glo g "range" := by rfl) (hs : ∀ env, starEach [a] env = [(false, eval a env)] := by intro _; rfl) : IOk g tg (.Call (.Name "range" p) [a] [] pos) (iRg1 fa) := fun X W A tk => by
  refine PI.imp (pi_range1 (hg.gl A) (by rw [A.mg]; exact hm) (ha X W A tk) (hs _)) fun σ H Q ⟨ρ, R, q⟩ => tA_step R q fun ss ρ1 xs H1 R1 E1 n1 q1 => ?_
  obtain ⟨ds, h1, q3⟩ := q1.pkL
  obtain ⟨j, ho, q5⟩ := q3.opt
  have pr := pkL_rd R1 n1 h1
  match ds, ho with
  | [.int j'], ho =>
    obtain ⟨x, rfl, r⟩ := pair1 pr
    simp only [int1] at ho
    split at ho
    · rename_i hz
      cases ho
      exact ⟨j, by rw [r.int], hz.1, hz.2, q5 H1 (Ext.refl _) R1 _ it_rg⟩
    · cases ho
theorem i_rg2 {p : Pos} {fa : Ax} (hm : g.mg "range" = none) (ha : AOk g [a, b] fa) (hg : Glo g "range" := by rfl) (hs : ∀ env, starEach [a, b] env = [(false, eval a env), (false, eval b env)] := by intro _; rfl) (hs2 : ∀ env, starEach [b] env = [(false, eval b env)] := by intro _; rfl) :
    IOk g tg (.Call (.Name "range" p) [a, b] [] pos) (iRg2 fa) := fun X W A tk => by
  refine PI.imp (pi_range2 (hg.gl A) (by rw [A.mg]; exact hm) (ha X W A tk) (hs _) (hs2 _)) fun σ H Q ⟨ρ, R, q⟩ => tA_step R q fun ss ρ1 xs H1 R1 E1 n1 q1 => ?_
  obtain ⟨ds, h1, q3⟩ := q1.pkL
  obtain ⟨j, ho, q5⟩ := q3.opt
  have pr := pkL_rd R1 n1 h1
  match ds, ho with
  | [.int i', .int j'], ho =>
    obtain ⟨x, y, rfl, r, r'⟩ := pair2 pr
    simp only [int2] at ho
    split at ho
    · rename_i hz
      cases ho
      exact ⟨i', j', by rw [r.int, r'.int], hz, q5 H1 (Ext.refl _) R1 _ it_rg⟩
    · cases ho
end
end PL

namespace PL
open PySem PySem.Spec PyProof.Rows L2
/-! ### slots forgotten -/
def wipeE (ρ : Rho) : List Nat → Rho
  | [] => ρ
  | v :: vs => (wipeE ρ vs).set v none
theorem wipe_get (σ : L2.St) (j : Nat) : ∀ vs : List Nat, (wipe σ vs)[j]? = if j ∈ vs then (if j < σ.length then some none else none) else σ[j]?
  | [] => by simp [wipe]
  | v :: vs => by
    unfold wipe
    have ih := wipe_get σ j vs
    by_cases hj : v = j
    · subst hj
      rw [if_pos List.mem_cons_self]
      by_cases hl : v < σ.length
      · rw [if_pos hl, List.getElem?_set_self (by rw [wipe_length]; exact hl)]
      · rw [if_neg hl, List.getElem?_eq_none (by rw [List.length_set, wipe_length]; omega)]
    · rw [List.getElem?_set_ne hj, ih]
      have : (j ∈ v :: vs) ↔ j ∈ vs := by
        rw [List.mem_cons]
        exact ⟨fun h => h.elim (fun z => (hj z.symm).elim) id, .inr⟩
      simp only [this]
theorem wipeE_len (ρ : Rho) : ∀ vs : List Nat, (wipeE ρ vs).length = ρ.length
  | [] => rfl
  | v :: vs => by unfold wipeE; rw [List.length_set, wipeE_len ρ vs]
theorem wipeE_get (ρ : Rho) (j : Nat) : ∀ vs : List Nat, (wipeE ρ vs)[j]? = if j ∈ vs then (if j < ρ.length then some none else none) else ρ[j]?
  | [] => by simp [wipeE]
  | v :: vs => by
    unfold wipeE
    have ih := wipeE_get ρ j vs
    by_cases hj : v = j
    · subst hj
      rw [if_pos List.mem_cons_self]
      by_cases hl : v < ρ.length
      · rw [if_pos hl, List.getElem?_set_self (by rw [wipeE_len]; exact hl)]
      · rw [if_neg hl, List.getElem?_eq_none (by rw [List.length_set, wipeE_len]; omega)]
    · rw [List.getElem?_set_ne hj, ih]
      have : (j ∈ v :: vs) ↔ j ∈ vs := by
        rw [List.mem_cons]
        exact ⟨fun h => h.elim (fun z => (hj z.symm).elim) id, .inr⟩
      simp only [this]
theorem wipeE_some {ρ : Rho} {j : Nat} {s : S} {vs : List Nat} (h : (wipeE ρ vs)[j]? = some (some s)) : j ∉ vs ∧ ρ[j]? = some (some s) := by
  rw [wipeE_get] at h
  split at h
  · split at h <;> cases h
  · rename_i hj; exact ⟨hj, h⟩
theorem wipe_chs {ts vs : List Nat} {σ σ' : L2.St} (c : Chs ts σ σ') (h : ∀ i ∈ ts, i ∈ vs) : wipe σ' vs = wipe σ vs := by
  apply List.ext_getElem?
  intro j
  rw [wipe_get, wipe_get, c.1]
  by_cases hj : j ∈ vs
  · rw [if_pos hj, if_pos hj]
  · rw [if_neg hj, if_neg hj, c.2 j fun z => hj (h j z)]
theorem wipe_wipe (σ : L2.St) (vs : List Nat) : wipe (wipe σ vs) vs = wipe σ vs := by
  apply List.ext_getElem?
  intro j
  rw [wipe_get, wipe_get, wipe_length]
  by_cases hj : j ∈ vs
  · rw [if_pos hj, if_pos hj]
  · rw [if_neg hj, if_neg hj]
section
variable {g : Cf} {X : Cx} {K : PySem.W.Frag}
theorem ER.wipe {σ : L2.St} {H : Hp} {ρ : Rho} {vs : List Nat} (R : ER K g ρ σ H) (hio : ∀ i ∈ vs, i ∉ g.ios) : ER K g (wipeE ρ vs) (L2.wipe σ vs) H := by
  have sg : ∀ j, j ∉ vs → (L2.wipe σ vs)[j]? = σ[j]? := fun j hj => by rw [wipe_get, if_neg hj]
  refine ⟨by rw [wipeE_len, wipe_length]; exact R.len, fun j d h => ?_, fun j d h => ?_, fun j m h => ?_, fun j m d d' a h1 h2 h3 h4 => ?_, R.old, fun j d a h1 h2 => ?_, fun p hp => ?_⟩
  · obtain ⟨hj, h⟩ := wipeE_some h
    rw [sg j hj]
    exact R.val j d h
  · obtain ⟨hj, h⟩ := wipeE_some h
    rw [sg j hj]
    exact R.own j d h
  · obtain ⟨hj, h⟩ := wipeE_some h
    exact R.bor j m h
  · obtain ⟨hj, h1⟩ := wipeE_some h1
    obtain ⟨hm, h2⟩ := wipeE_some h2
    rw [sg j hj] at h3
    rw [sg m hm] at h4
    exact R.sep j m d d' a h1 h2 h3 h4
  · obtain ⟨hj, h1⟩ := wipeE_some h1
    rw [sg j hj] at h2
    exact R.new j d a h1 h2
  · obtain ⟨h1, d, h2⟩ := R.io p hp
    have hj : p.1 ∉ vs := fun z => hio _ z (List.mem_map.mpr ⟨p, hp, rfl⟩)
    rw [sg _ hj]
    refine ⟨h1, d, ?_⟩
    rw [wipeE_get, if_neg hj]
    exact h2
theorem own_wipe {σ : L2.St} {ρ : Rho} {vs : List Nat} {a : Addr} (h : Own (wipeE ρ vs) (L2.wipe σ vs) a) : Own ρ σ a := by
  obtain ⟨i, d, h1, h2⟩ := h
  obtain ⟨hi, h1⟩ := wipeE_some h1
  rw [wipe_get, if_neg hi] at h2
  exact ⟨i, d, h1, h2⟩
/-- what stood ahead of a block and is none of the names' own -/
noncomputable def hold (ρ : Rho) (σ : L2.St) (H : Hp) : Hp := fun a => open Classical in if Own ρ σ a then none else H a
theorem hold_own {ρ : Rho} {σ : L2.St} {H : Hp} {a : Addr} (h : Own ρ σ a) : hold ρ σ H a = none := by unfold hold; rw [if_pos h]
theorem hold_not {ρ : Rho} {σ : L2.St} {H : Hp} {a : Addr} (h : ¬ Own ρ σ a) : hold ρ σ H a = H a := by unfold hold; rw [if_neg h]
theorem ER.rebase {σ : L2.St} {H : Hp} {ρ : Rho} (R : ER K g ρ σ H) (g' : Cf) (h0 : g'.H0 = hold ρ σ H) (hi : g'.io = g.io) : ER K g' ρ σ H where
  len := R.len
  val := R.val
  own := R.own
  bor := R.bor
  sep := R.sep
  old := fun a o h _ => by
    rw [h0] at h
    by_cases ho : Own ρ σ a
    · rw [hold_own ho] at h; cases h
    · rw [hold_not ho] at h; exact h
  new := fun i d a h1 h2 => .inl (by rw [h0]; exact hold_own ⟨i, d, h1, h2⟩)
  io := by rw [hi]; exact R.io
theorem ER.back {σ σ2 : L2.St} {H H2 : Hp} {ρ ρ2 : Rho} (R : ER K g ρ σ H) {g' : Cf} (h0 : g'.H0 = hold ρ σ H) (hi : g'.io = g.io) (R2 : ER K g' ρ2 σ2 H2) : ER K g ρ2 σ2 H2 where
  len := R2.len
  val := R2.val
  own := R2.own
  bor := R2.bor
  sep := R2.sep
  old := fun a o h hp => by
    refine R2.old a o ?_ (by rw [hi]; exact hp)
    have no : ¬ Own ρ σ a := fun ⟨i, d, h1, h2⟩ => by
      rcases R.new i d a h1 h2 with z | z
      · rw [h] at z; cases z
      · exact hp _ z rfl
    rw [h0, hold_not no]
    exact R.old a o h hp
  new := fun i d a h1 h2 => by
    rcases R2.new i d a h1 h2 with z | z
    · rw [h0] at z
      by_cases ho : Own ρ σ a
      · obtain ⟨j, e, h3, h4⟩ := ho
        rcases R.new j e a h3 h4 with y | y
        · exact .inl y
        · have y' := y
          rw [← hi] at y'
          obtain ⟨h5, e', h6⟩ := R2.io _ y'
          have := R2.sep i j d e' a h1 h6 h2 h5
          subst this
          exact .inr y
      · rw [hold_not ho] at z
        exact .inl (not_old R z)
    · rw [hi] at z; exact .inr z
  io := by have := R2.io; rw [hi] at this; exact this
/-! ### a comprehension's block -/
noncomputable def Cf.blk (g : Cf) (scope : Scope) (H0 : Hp) : Cf := { g with sc := relS scope g.sc, fn := fun x => scope.names.lookup x == some .cell, H0 := H0 }
theorem At.blk (A : At g X) {scope : Scope} {s : Shared} {H H0 : Hp} {C : Addr} {cl : List (Str × Addr)} {fp : List Addr} : At (g.blk scope H0) (X.blk s H scope (compEnvC scope cl C X.env) fp) where
  prog := A.prog
  w := A.w
  K := A.K
  mg := A.mg
  base := A.base
  N := A.N
  sc := by
    show (compEnvC scope cl C X.env).scope = _
    show relS scope X.env.scope = relS scope g.sc
    rw [A.sc]
  fn := fun x h => h
  room := A.room
  calm := A.calm
end
def nox {α : Type} : Out α → Out α
  | .ok a => .ok a
  | _ => .stuck
/-- the names of the block as they were ahead of it, the others as it leaves them -/
def unwipe (vs : List Nat) (ρ : Rho) (ρ' : Rho) : Rho := match vs with
  | [] => ρ'
  | v :: vs => (unwipe vs ρ ρ').set v (match ρ[v]? with
    | some (some (.v d)) => some (.v d)
    | _ => none)
theorem unwipe_len (ρ ρ' : Rho) : ∀ vs : List Nat, (unwipe vs ρ ρ').length = ρ'.length
  | [] => rfl
  | v :: vs => by unfold unwipe; rw [List.length_set, unwipe_len ρ ρ' vs]
theorem unwipe_some {ρ ρ' : Rho} {j : Nat} {s : S} : ∀ {vs : List Nat}, (unwipe vs ρ ρ')[j]? = some (some s) → (j ∉ vs ∧ ρ'[j]? = some (some s)) ∨ (j ∈ vs ∧ ρ[j]? = some (some s) ∧ ∃ d, s = .v d)
  | [], h => .inl ⟨by simp, h⟩
  | v :: vs, h => by
    unfold unwipe at h
    by_cases hj : v = j
    · subst hj
      right
      by_cases hl : v < (unwipe vs ρ ρ').length
      · rw [List.getElem?_set_self hl] at h
        split at h
        · rename_i d hd
          cases h
          exact ⟨List.mem_cons_self, hd, d, rfl⟩
        · cases h
      · rw [List.getElem?_eq_none (by rw [List.length_set]; omega)] at h; cases h
    · rw [List.getElem?_set_ne hj] at h
      rcases unwipe_some h with ⟨h1, h2⟩ | ⟨h1, h2⟩
      · exact .inl ⟨fun z => (List.mem_cons.mp z).elim (fun z => hj z.symm) h1, h2⟩
      · exact .inr ⟨List.mem_cons_of_mem _ h1, h2⟩
theorem unwipe_out {ρ ρ' : Rho} {j : Nat} : ∀ {vs : List Nat}, j ∉ vs → (unwipe vs ρ ρ')[j]? = ρ'[j]?
  | [], _ => rfl
  | v :: vs, h => by
    unfold unwipe
    rw [List.getElem?_set_ne (fun z => h (by rw [z]; exact List.mem_cons_self)), unwipe_out fun z => h (List.mem_cons_of_mem _ z)]
section
variable {g : Cf} {X : Cx} {K : PySem.W.Frag}
theorem ER.unwipe {σ : L2.St} {H H' : Hp} {ρ ρ' : Rho} {vs : List Nat} (R : ER K g ρ σ H) (R' : ER K g ρ' (L2.wipe σ vs) H') (e : Ext H H') (hio : ∀ i ∈ vs, i ∉ g.ios) : ER K g (PL.unwipe vs ρ ρ') σ H' := by
  have sg : ∀ j, j ∉ vs → (L2.wipe σ vs)[j]? = σ[j]? := fun j hj => by rw [wipe_get, if_neg hj]
  refine ⟨by rw [unwipe_len, R'.len, wipe_length], fun j d h => ?_, fun j d h => ?_, fun j m h => ?_, fun j m d d' a h1 h2 h3 h4 => ?_, R'.old, fun j d a h1 h2 => ?_, fun p hp => ?_⟩
  · rcases unwipe_some h with ⟨hj, h⟩ | ⟨hj, h, _⟩
    · have := R'.val j d h
      rw [sg j hj] at this
      exact this
    · obtain ⟨x, h1, h2⟩ := R.val j d h
      exact ⟨x, h1, Imm.ext e _ _ h2⟩
  · rcases unwipe_some h with ⟨hj, h⟩ | ⟨hj, h, _, z⟩
    · have := R'.own j d h
      rw [sg j hj] at this
      exact this
    · cases z
  · rcases unwipe_some h with ⟨hj, h⟩ | ⟨hj, h, _, z⟩
    · exact R'.bor j m h
    · cases z
  · rcases unwipe_some h1 with ⟨hj, h1⟩ | ⟨_, _, _, z⟩
    · rcases unwipe_some h2 with ⟨hm, h2⟩ | ⟨_, _, _, z⟩
      · rw [← sg j hj] at h3
        rw [← sg m hm] at h4
        exact R'.sep j m d d' a h1 h2 h3 h4
      · cases z
    · cases z
  · rcases unwipe_some h1 with ⟨hj, h1⟩ | ⟨_, _, _, z⟩
    · rw [← sg j hj] at h2
      exact R'.new j d a h1 h2
    · cases z
  · obtain ⟨h1, d, h2⟩ := R'.io p hp
    have hj : p.1 ∉ vs := fun z => hio _ z (List.mem_map.mpr ⟨p, hp, rfl⟩)
    rw [sg _ hj] at h1
    exact ⟨h1, d, by rw [unwipe_out hj]; exact h2⟩
theorem own_unwipe {σ : L2.St} {ρ ρ' : Rho} {vs : List Nat} {a : Addr} (h : Own (PL.unwipe vs ρ ρ') σ a) : Own ρ' (L2.wipe σ vs) a := by
  obtain ⟨i, d, h1, h2⟩ := h
  rcases unwipe_some h1 with ⟨hj, h⟩ | ⟨_, _, _, z⟩
  · exact ⟨i, d, h, by rw [wipe_get, if_neg hj]; exact h2⟩
  · cases z
end
section
variable {g : Cf} {X : Cx} {e a b c tg elt iter : Expr} {ifs : List Expr} {pos : Pos} {W : WX}
def tsNo : Tx := fun ρ => .ok (true, ρ)
def TsOk (g : Cf) (es : List Expr) (f : Tx) : Prop := ∀ (X : Cx) (W : WX), At g X → Takes X W → PTs X es (tT X.K g f W)
theorem ts_no : TsOk g [] tsNo := fun X W A tk => ⟨fun pins s σ H Q I ⟨ρ, R, q⟩ => pts_nil.run pins s σ H Q I (q H (Ext.refl H) R)⟩
theorem ts_one {t : Tx} (h : TOk g c t) : TsOk g [c] t := fun X W A tk => pts_one (h X W A tk)
def lcLp (l vs : List Nat) (ft : Gx) (tt : Tx) (fe : Ex) : List D → Rho → List D → Out (List D × Rho)
  | [], ρ, acc => .ok (acc, ρ)
  | d :: ds, ρ, acc => liftO (ft d ρ) >>= fun ρ1 => tt ρ1 >>= fun p =>
      if p.1 = true then eF l fe p.2 >>= fun q => if acc.length < 16777216 then lcLp l vs ft tt fe ds (wipeE q.2 vs) (acc ++ [q.1]) else .stuck
      else lcLp l vs ft tt fe ds (wipeE p.2 vs) acc
def eLc (l vs : List Nat) (fi : Ix) (ft : Gx) (tt : Tx) (fe : Ex) : Ex := fun ρ => fi ρ >>= fun p => if (∀ i ∈ vs, i ∉ l) then nox (lcLp l vs ft tt fe p.1 (wipeE p.2 vs) []) >>= fun q => .ok (.o (.lst q.1), unwipe vs p.2 q.2) else .stuck
theorem nox_ok {α : Type} {r : Out α} {a : α} (h : nox r = .ok a) : r = .ok a := by cases r <;> cases h; rfl
theorem nox_noexc {α : Type} {r : Out α} {c : Str} {ρ : Rho} (h : nox r = .exc c ρ) : False := by cases r <;> cases h
theorem bind_is {α β : Type} {r : Out α} {k : α → Out β} {b : β} (h : (r >>= k) = .ok b) : ∃ a, r = .ok a ∧ k a = .ok b := by
  cases r with
  | stuck => cases h
  | exc c ρ => cases h
  | ok a => exact ⟨a, rfl, h⟩
theorem liftO_is {α : Type} {o : Option α} {b : α} (h : liftO o = .ok b) : o = some b := by
  cases o with
  | none => cases h
  | some a => cases h; rfl
/-- the heart of a comprehension's reading -/
theorem read_lc {scope : Scope} {own : List (Str × Nat)} {ts vs : List Nat} {fi : Ix} {ft : Gx} {tt : Tx} {fe : Ex} (A : At g X) (hts : ∀ i ∈ ts, i ∈ vs) {σ : L2.St} {H : Hp} {Q : VK} {tgt : TG} {ttt : TT} {tte : TE}
    (hg : ∀ {v σ2 H2 Q} {H0 : Hp}, tGx X.K (g.blk scope H0) ts ft v σ2 H2 Q → tgt v σ2 H2 Q)
    (ht : ∀ {σ2 H2 Q} {H0 : Hp}, tT X.K (g.blk scope H0) tt (fun _ _ _ _ => False) σ2 H2 Q → ttt σ2 H2 Q)
    (he : ∀ {σ2 H2 Q} {H0 : Hp}, tF X.K (g.blk scope H0) fe (fun _ _ _ _ => False) σ2 H2 Q → tte σ2 H2 Q)
    (t : tE X.K g (eLc g.ios vs fi ft tt fe) W σ H Q) : tLc (tI X.K g fi W) tgt ttt tte vs σ H Q := by
  obtain ⟨ρ, R, q⟩ := t
  refine ⟨ρ, R, ?_⟩
  unfold eLc at q
  cases hf : fi ρ with
  | stuck => rw [hf] at q; exact q.elim
  | exc c ρ1 => rw [hf] at q; exact q
  | ok p =>
    obtain ⟨ds, ρ1⟩ := p
    rw [hf] at q
    simp only [bind_ok] at q
    split at q
    case isFalse => exact q.elim
    rename_i hio
    cases hl : nox (lcLp g.ios vs ft tt fe ds (wipeE ρ1 vs) []) with
    | stuck => rw [hl] at q; exact q.elim
    | exc c ρ' => exact (nox_noexc hl).elim
    | ok r =>
      rw [hl] at q
      obtain ⟨out, ρ9⟩ := r
      have hl := nox_ok hl
      intro H1 E1 R1 J it D hD
      obtain ⟨G, Y, w, g1, gs, y⟩ := it
      have smD : Same H1 (upd H1 D (.lst [])) := new_tup (K := X.K) hD
      refine lc_it w (fun i H2 => G H2 ∧ Ext H1 H2 ∧ ∃ ρi acc vacc, ER X.K g ρi (wipe σ vs) H2 ∧ ¬ Own ρi (wipe σ vs) D ∧ H2 D = some (.lst vacc) ∧ ImmL X.K H2 acc vacc ∧ lcLp g.ios vs ft tt fe (ds.drop i) ρi acc = .ok (out, ρ9)) ?_ (fun i H2 _ h => h.1) (fun i x H2 H3 hi h hy => ?_) (fun H2 h => ?_)
      · refine ⟨gs _ _ (Ext.of_same smD) g1, Ext.of_same smD, wipeE ρ1 vs, [], [], (R1.wipe hio).same smD, fun o => not_own R1 hD (own_wipe o), upd_same, rfl, hl⟩
      · obtain ⟨g2, E2, ρi, acc, vacc, Ri, no, hDi, im, hl2⟩ := h
        obtain ⟨sm, d, hd, imd⟩ := y i H2 x H3 hi g2 hy
        have hdrop : ds.drop i = d :: ds.drop (i + 1) := by
          have e1 := List.drop_eq_getElem_cons hi
          rw [List.getElem?_eq_getElem hi] at hd
          rw [e1, Option.some.inj hd]
        rw [hdrop] at hl2
        obtain ⟨ρ2, h2, hl3⟩ := bind_is hl2
        have h2 := liftO_is h2
        obtain ⟨p, h3, hl4⟩ := bind_is hl3
        have Ri3 := Ri.same sm
        have hD3 : H3 D = some (.lst vacc) := sm _ _ hDi
        have Rb : ER X.K (g.blk scope (hold ρi (wipe σ vs) H3)) ρi (wipe σ vs) H3 := Ri3.rebase _ rfl rfl
        have hH0 : hold ρi (wipe σ vs) H3 D = some (.lst vacc) := by rw [hold_not no]; exact hD3
        have notio : ∀ p ∈ g.io, p.2 ≠ D := fun p hp z => by
          obtain ⟨h5, d', h6⟩ := Ri3.io p hp
          exact no ⟨p.1, d', h6, by rw [h5, z]⟩
        -- what a state of the block tells
        have fin : ∀ {ρ4 : Rho} {σ4 : L2.St} {H4 : Hp}, ER X.K (g.blk scope (hold ρi (wipe σ vs) H3)) ρ4 σ4 H4 → Ext H3 H4 → Chs ts (wipe σ vs) σ4 →
            H4 D = some (.lst vacc) ∧ ER X.K g (wipeE ρ4 vs) (wipe σ vs) H4 ∧ ¬ Own (wipeE ρ4 vs) (wipe σ vs) D ∧ G H4 ∧ Ext H1 H4 := fun {ρ4 σ4 H4} R4 E4 C4 => by
          have k1 : H4 D = some (.lst vacc) := R4.old D _ hH0 notio
          have k2 := (Ri3.back (g' := g.blk scope (hold ρi (wipe σ vs) H3)) rfl rfl R4).wipe hio
          have k3 : wipe σ4 vs = wipe σ vs := by rw [wipe_chs C4 hts, wipe_wipe]
          rw [k3] at k2
          refine ⟨k1, k2, fun o => ?_, gs _ _ ((Ext.of_same sm).trans E4) g2, E2.trans ((Ext.of_same sm).trans E4)⟩
          rw [← k3] at o
          obtain ⟨j, d', o1, o2⟩ := own_wipe o
          rcases R4.new j d' D o1 o2 with z | z
          · have z : hold ρi (wipe σ vs) H3 D = none := z
            rw [hH0] at z; cases z
          · exact notio _ z rfl
        refine hg (H0 := hold ρi (wipe σ vs) H3) ⟨ρi, d, Rb, imd, ?_⟩
        rw [h2]
        intro σ4 H4 C4 E4 R4
        refine ⟨by rw [wipe_chs C4 hts, wipe_wipe], ht (H0 := hold ρi (wipe σ vs) H3) ⟨ρ2, R4, ?_⟩⟩
        rw [h3]
        intro H5 E5 R5
        obtain ⟨b, ρ5⟩ := p
        cases b with
        | false =>
          obtain ⟨k1, k2, k3, k4, k5⟩ := fin R5 (E4.trans E5) C4
          refine iteF ⟨k4, k5, _, acc, vacc, k2, k3, k1, ImmL.ext ((Ext.of_same sm).trans (E4.trans E5)) _ _ im, hl4⟩
        | true =>
          obtain ⟨r, h6, hl5⟩ := bind_is hl4
          refine iteT (he (H0 := hold ρi (wipe σ vs) H3) ⟨ρ5, R5, ?_⟩)
          have h6' : eF (g.blk scope (hold ρi (wipe σ vs) H3)).ios fe ρ5 = .ok r := h6
          rw [h6']
          intro H6 E6 R6 v6 im6
          obtain ⟨k1, k2, k3, k4, k5⟩ := fin R6 ((E4.trans E5).trans E6) C4
          split at hl5
          case isFalse => cases hl5
          rename_i hlen
          have im' := ImmL.ext ((Ext.of_same sm).trans ((E4.trans E5).trans E6)) _ _ im
          refine ⟨vacc, k1, by rw [im.len, sizeLine_eq]; exact hlen, ?_⟩
          have x7 : Ext H6 (upd H6 D (.lst (vacc ++ [v6]))) := fun b ob hb => by
            by_cases hba : b = D
            · subst hba
              rw [k1] at hb; cases hb
              exact ⟨fun xs e => (by cases e), fun _ _ e => (by cases e)⟩
            · exact ⟨fun _ _ => by rw [upd_ne hba]; exact hb, fun _ _ _ => by rw [upd_ne hba]; exact hb⟩
          have h0D : g.H0 D = none := not_old R1 hD
          refine ⟨gs _ _ x7 k4, k5.trans x7, _, acc ++ [r.1], vacc ++ [v6], k2.but (a := D) x7 (fun b ob hb hh => by rw [upd_ne hb]; exact hh) k3 h0D, k3, upd_same, (ImmL.ext x7 _ _ im').snoc (Imm.ext x7 _ _ im6), hl5⟩
      · obtain ⟨g2, E2, ρi, acc, vacc, Ri, no, hDi, im, hl2⟩ := h
        rw [List.drop_length] at hl2
        cases hl2
        have R9 := R1.unwipe Ri E2 hio
        exact q H2 (E1.trans E2) R9 _ ⟨D, rfl, ⟨vacc, hDi, im⟩, fun o => no (own_unwipe o), not_old R1 hD⟩
theorem e_lc {scope : Scope} {own : List (Str × Nat)} {ts vs : List Nat} {fi : Ix} {ft : Gx} {tt : Tx} {fe : Ex} (nd : g.N.Nodup) (ok : blkC g.N g.sc scope own = true) (hvs : own.map (·.2) = vs) (hts : (ts.all fun i => vs.contains i) = true) (hi : IOk g tg iter fi)
    (hg : ∀ H0, GOk (g.blk scope H0) tg ts ft) (ht : ∀ H0, TsOk (g.blk scope H0) ifs tt) (he : ∀ H0, EOk (g.blk scope H0) elt fe) (hs : ∀ env x, foldedSetIterable iter env x = pure x := by intro _ _; rfl) :
    EOk g (.ListComp elt [⟨tg, iter, ifs, 0⟩] scope pos) (eLc g.ios vs fi ft tt fe) := fun X W A tk => by
  subst hvs
  have hts' : ∀ i ∈ ts, i ∈ own.map (·.2) := fun i hi => by simpa using List.all_eq_true.mp hts i hi
  have key := pe_lc (g := fun v σ H Q => ∃ H0, tGx X.K (g.blk scope H0) ts ft v σ H Q) (tt := fun σ H Q => ∃ H0, tT X.K (g.blk scope H0) tt (fun _ _ _ _ => False) σ H Q) (te := fun σ H Q => ∃ H0, tF X.K (g.blk scope H0) fe (fun _ _ _ _ => False) σ H Q)
    (own := own) (scope := scope) (pos := pos) A.calm (by rw [A.N]; exact nd) (hi X W A tk) (by rw [A.N, A.sc]; exact blkOk_by ok)
    (fun s H C cl fp => ⟨fun pins s σ H v u Q I r ⟨H0, q⟩ => ((hg H0) _ A.blk).run pins s σ H v u Q I r q⟩)
    (fun s H C cl fp => ⟨fun pins s σ H Q I ⟨H0, q⟩ => ((ht H0) _ _ A.blk takes0).run pins s σ H Q I q⟩)
    (fun s H C cl fp => ⟨fun pins s σ H Q I ⟨H0, q⟩ => ((he H0).f A.blk takes0).run pins s σ H Q I q⟩) (hs _)
  exact PE.imp key fun σ H Q t => read_lc (scope := scope) (own := own) A hts' (fun {v σ2 H2 Q H0} h => ⟨H0, h⟩) (fun {σ2 H2 Q H0} h => ⟨H0, h⟩) (fun {σ2 H2 Q H0} h => ⟨H0, h⟩) t
/-- y = [..] on one line -/
theorem s_lc {x : Str} {i : Nat} {py spos : Pos} {scope : Scope} {own : List (Str × Nat)} {ts vs : List Nat} {fi : Ix} {ft : Gx} {tt : Tx} {fe : Ex} (sl : Slot g x i) (hloc : g.sc.names.lookup x = some .local) (hline : (py.line == pos.line) = true) (hown : (scope.names.any fun (n, k) => n == x && (k == .local || k == .cell)) = false)
    (hkind : g.sc.kind = .function) (ok : blkC g.N g.sc scope own = true) (hvs : own.map (·.2) = vs) (hts : (ts.all fun i => vs.contains i) = true) (hi : IOk g tg iter fi)
    (hg : ∀ H0, GOk (g.blk scope H0) tg ts ft) (ht : ∀ H0, TsOk (g.blk scope H0) ifs tt) (he : ∀ H0, EOk (g.blk scope H0) elt fe) (hs : ∀ env x, foldedSetIterable iter env x = pure x := by intro _ _; rfl) :
    SOk g (.Assign [.Name x py] (.ListComp elt [⟨tg, iter, ifs, 0⟩] scope pos) spos) (sSet g.ios i (eLc g.ios vs fi ft tt fe)) := fun X W A tk => by
  subst hvs
  have hts' : ∀ i ∈ ts, i ∈ own.map (·.2) := fun i hi => by simpa using List.all_eq_true.mp hts i hi
  have key := ps_setLc (i := i) (y := x) (py := py) (spos := spos) (g := fun v σ H Q => ∃ H0, tGx X.K (g.blk scope H0) ts ft v σ H Q) (tt := fun σ H Q => ∃ H0, tT X.K (g.blk scope H0) tt (fun _ _ _ _ => False) σ H Q) (te := fun σ H Q => ∃ H0, tF X.K (g.blk scope H0) fe (fun _ _ _ _ => False) σ H Q)
    (own := own) (scope := scope) (pos := pos) A.calm (by rw [A.N]; exact sl.nd) (by rw [A.N]; exact sl.ix) (by rw [A.sc]; exact hloc) (sw_true (by rw [A.sc]; exact hkind) (by rw [A.sc]; exact hloc) hline hown) (hi X W A.toAt tk) (by rw [A.N, A.sc]; exact blkOk_by ok)
    (fun s H C cl fp => ⟨fun pins s σ H v u Q I r ⟨H0, q⟩ => ((hg H0) _ A.toAt.blk).run pins s σ H v u Q I r q⟩)
    (fun s H C cl fp => ⟨fun pins s σ H Q I ⟨H0, q⟩ => ((ht H0) _ _ A.toAt.blk takes0).run pins s σ H Q I q⟩)
    (fun s H C cl fp => ⟨fun pins s σ H Q I ⟨H0, q⟩ => ((he H0).f A.toAt.blk takes0).run pins s σ H Q I q⟩) (hs _)
  refine PS.imp key fun D σ H ⟨ρ, R, q⟩ => ?_
  refine read_lc (scope := scope) (own := own) (W := W) A.toAt hts' (fun {v σ2 H2 Q H0} h => ⟨H0, h⟩) (fun {σ2 H2 Q H0} h => ⟨H0, h⟩) (fun {σ2 H2 Q H0} h => ⟨H0, h⟩) ⟨ρ, R, ?_⟩
  unfold sSet eBd at q
  cases hf : eLc g.ios (own.map (·.2)) fi ft tt fe ρ with
  | stuck => rw [hf] at q; exact q.elim
  | exc c ρ1 => rw [hf] at q; exact fun cls H' R' x m => q cls σ H' x R' m
  | ok p =>
    obtain ⟨s, ρ1⟩ := p
    rw [hf] at q
    have hso : ∃ d, s = .o d := by
      unfold eLc at hf
      obtain ⟨p1, _, h2⟩ := bind_is hf
      split at h2
      · obtain ⟨p3, _, h4⟩ := bind_is h2
        cases h4
        exact ⟨_, rfl⟩
      · cases h2
    obtain ⟨d, rfl⟩ := hso
    intro H1 E1 R1 x sr
    have q : PsS X.K g H W D (if i ∈ g.ios then .stuck else .ok (.next (ρ1.set i (some (.o d))))) := q
    split at q
    · exact q.elim
    · rename_i hio
      exact q _ H1 E1 (R1.set (s := .o d) sr hio)
end
end PL

namespace PL
open PySem PySem.Spec PyProof.Rows L2
/-! ### defs -/
abbrev Fn := List D → Out S
def spF (K : PySem.W.Frag) (mg : Str → Option Value) (n : Nat) (F : Fn) : Sp := fun vs H Q E => ∃ ds : List D, ds.length = n ∧ ImmL K H ds vs ∧ (match F ds with
  | .ok s => ∀ H' x, Same H H' → RS K H H' s x → Q x H'
  | .exc c _ => ∀ cls H', Same H H' → mg c = some cls → E cls none H'
  | .stuck => False)
def rhoV (m : Nat) (ds : List D) : Rho := ds.map (fun d => some (.v d)) ++ List.replicate m none
def endF : Fl → Out S
  | .ret s _ => .ok s
  | .next _ => .ok (.v .non)
  | _ => .stuck
def runF (m : Nat) (f : Sx) : Fn := fun ds => f (rhoV m ds) >>= endF
theorem immL_all {K : PySem.W.Frag} {H : Hp} {ds : List D} {vs : List V} (h : ImmL K H ds vs) {m : Nat} (i : Nat) (d : D) (e : (rhoV m ds)[i]? = some (some (.v d))) : ∃ x, vs[i]? = some x ∧ Imm K H d x := by
  unfold rhoV at e
  rcases Nat.lt_or_ge i ds.length with hi | hi
  · rw [List.getElem?_append_left (by simpa using hi)] at e
    rw [List.getElem?_map] at e
    cases hd : ds[i]? with
    | none => rw [hd] at e; cases e
    | some d' => rw [hd] at e; cases e; exact h.get' hd
  · rw [List.getElem?_append_right (by simpa using hi)] at e
    rw [List.getElem?_replicate] at e
    split at e <;> cases e
theorem rhoV_v {m : Nat} {ds : List D} {i : Nat} {s : S} (e : (rhoV m ds)[i]? = some (some s)) : ∃ d, s = .v d := by
  unfold rhoV at e
  rcases Nat.lt_or_ge i ds.length with hi | hi
  · rw [List.getElem?_append_left (by simpa using hi)] at e
    rw [List.getElem?_map] at e
    cases hd : ds[i]? with
    | none => rw [hd] at e; cases e
    | some d' => rw [hd] at e; cases e; exact ⟨_, rfl⟩
  · rw [List.getElem?_append_right (by simpa using hi)] at e
    rw [List.getElem?_replicate] at e
    split at e <;> cases e
theorem start_er {K : PySem.W.Frag} {g : Cf} {H : Hp} {ds : List D} {vs : List V} {n m : Nat} (h : ImmL K H ds vs) (hl : ds.length = n) (hm : g.N.length = n + m) (h0 : g.H0 = H) (hio : g.io = []) : ER K g (rhoV m ds) (L2.start g.N vs) H where
  len := by simp only [rhoV, L2.start, List.length_append, List.length_map, List.length_replicate, h.len, hl, hm]; omega
  val := fun i d e => by
    obtain ⟨x, h1, h2⟩ := immL_all h i d e
    refine ⟨x, ?_, h2⟩
    unfold L2.start
    have hi : i < vs.length := by
      rcases Nat.lt_or_ge i vs.length with z | z
      · exact z
      · rw [List.getElem?_eq_none z] at h1; cases h1
    rw [List.getElem?_append_left (by simpa using hi), List.getElem?_map, h1]; rfl
  own := fun i d e => by obtain ⟨d', z⟩ := rhoV_v e; cases z
  bor := fun i j e => by obtain ⟨d', z⟩ := rhoV_v e; cases z
  sep := fun i j d d' a e => by obtain ⟨d', z⟩ := rhoV_v e; cases z
  old := fun a o h _ => by rw [← h0]; exact h
  new := fun i d a e => by obtain ⟨d', z⟩ := rhoV_v e; cases z
  io := fun p hp => by rw [hio] at hp; cases hp
theorem br_rs {K : PySem.W.Frag} {g : Cf} {H H' : Hp} {s : S} {x : V} (h0 : g.H0 = H) (b : BR K g [] [] H' s x) : RS K H H' s x := by
  cases s with
  | v d => exact b
  | o d => obtain ⟨a, h1, h2, _, h4⟩ := b; exact ⟨a, h1, by rw [← h0]; exact h4, h2⟩
  | b i => exact b.elim
/-- a def by its body -/
theorem fn_ok {P : Program} {w : World} {K : PySem.W.Frag} {mg : Str → Option Value} {base : Heap} {x qual : Str} {st : Stmt} {fa : Addr} {fd : FuncData} {N ps : List Str} {k n m : Nat} {f : Sx} (F : L2.Fun K x qual st fa fd) (S : FnScope N ps (defScope st)) (hn : ps.length = n) (hm : N.length = n + m)
    (hb : ∀ H0, SsOk ⟨P, w, K, mg, base, N, defScope st, fun _ => true, k, H0, []⟩ (defBody st) f) : FnOk P w K mg base (L2.CX P w) (k + 1) fa fd ps (spF K mg n (runF m f)) := by
  refine F.okX S (fun vs H Q E ⟨ds, h1, h2, _⟩ => by rw [h2.len, h1, hn]) (fun cdv A outer s H vs Q E hr ⟨ds, h1, h2, h3⟩ => ?_)
  have AA : AtS ⟨P, w, K, mg, base, N, defScope st, fun _ => true, k, H, []⟩ (cxOf (L2.CX P w) P w K mg base N qual (defScope st) fa cdv A outer s H E) :=
    { prog := rfl, w := rfl, K := rfl, mg := rfl, base := rfl, N := rfl, sc := rfl, fn := fun _ _ => rfl, room := hr, calm := rfl, own := passes_of rfl, stk := rfl, fr := rfl }
  refine ⟨_, hb H _ (fun cls d _ H' => E cls d H') AA (takes_of rfl rfl rfl rfl), ⟨rhoV m ds, start_er h2 h1 hm rfl rfl, ?_⟩⟩
  have same : ∀ {ρ' σ' H'}, ER K ⟨P, w, K, mg, base, N, defScope st, fun _ => true, k, H, []⟩ ρ' σ' H' → Same H H' := fun {ρ' σ' H'} R a o e => R.old a o e (fun p hp => by cases hp)
  unfold runF at h3
  cases hf : f (rhoV m ds) with
  | stuck => rw [hf] at h3; exact h3.elim
  | exc c ρ1 => rw [hf] at h3; exact fun cls σ' H' _ R hm => h3 cls H' (same R) hm
  | ok r =>
    rw [hf] at h3
    cases r with
    | next ρ' => exact fun σ' H' _ R => h3 H' .non (same R) rfl
    | ret z ρ' => exact fun σ' H' y _ R b => h3 H' y (same R) (br_rs rfl b)
    | brk ρ' => exact h3.elim
    | cnt ρ' => exact h3.elim
/-- a def that may be called by its name -/
structure Cal (g : Cf) (x : Str) (n : Nat) (F : Fn) : Prop where
  ex : ∃ (f : Addr) (fd : FuncData) (ps : List Str), FnOk g.prog g.w g.K g.mg g.base (L2.CX g.prog g.w) g.k f fd ps (spF g.K g.mg n F) ∧ g.mg x = some (.ref f) ∧ PySem.W.keepIn g.K (.ref f) = true ∧ Binds g.K fd ps []
def atR (ρ : Rho) : Out S → Out (S × Rho)
  | .ok s => .ok (s, ρ)
  | .exc c _ => .exc c ρ
  | .stuck => .stuck
def eCall (l : List Nat) (n : Nat) (F : Fn) (fa : Ax) : Ex := fun ρ => aF l fa ρ >>= fun p => if p.1.length = n then atR p.2 (F p.1) else .stuck
section
variable {g : Cf} {X : Cx} {e a b c : Expr} {es : List Expr} {pos : Pos} {K : PySem.W.Frag} {W : WX}
theorem e_call {x : Str} {p : Pos} {n : Nat} {F : Fn} {fa : Ax} (hc : Cal g x n F) (ha : AOk g (e :: es) fa) (hg : Glo g x := by rfl) (hdb : (x == ("__debug__" : Str)) = false := by decide)
    (he : ∀ env, starEach (e :: es) env = (false, eval e env) :: starEach es env := by intro _; rfl) (hpl : ∀ env, (backTo pos (starEach es env)).any (·.1) = false := by intro _; rfl) : EOk g (.Call (.Name x p) (e :: es) [] pos) (eCall g.ios n F fa) := fun X W A tk => by
  obtain ⟨f, fd, ps, h1, h2, h3, h4⟩ := hc.ex
  have h1' : FnOk X.prog X.w X.K X.mg X.base (L2.CX X.prog X.w) g.k f fd ps (spF X.K X.mg n F) := by rw [A.prog, A.w, A.K, A.mg, A.base]; exact h1
  refine PE.imp (pe_callS h1' A.room (hg.gl A) (by rw [A.mg]; exact h2) (by rw [A.K]; exact h3) (by rw [A.K]; exact h4) (fun σ => passAt tk σ) (ha.f A tk) hdb (he _) (hpl _)) fun σ H Q ⟨ρ, R, q⟩ => ?_
  refine tAF_step R q fun ds ρ1 vs H1 R1 E1 im q1 => ?_
  split at q1
  case isFalse => exact q1.elim
  rename_i hl
  refine ⟨ds, hl, im, ?_⟩
  cases hF : F ds with
  | stuck => rw [hF] at q1; exact q1.elim
  | exc c ρ' => rw [hF] at q1; exact fun cls H' sm hm => q1 cls H' (R1.same sm) (Ext.of_same sm) (by rw [← A.mg]; exact hm)
  | ok s => rw [hF] at q1; exact fun H' y sm rs => q1 H' (Ext.of_same sm) (R1.same sm) y (rs.sr R1)
/-! ### raise -/
/-- an exception class of the program's own -/
structure Exc (g : Cf) (c : Str) : Prop where
  ex : ∃ C : Addr, PySem.W.excIn g.K C [.type "ValueError", .type "Exception", .type "BaseException", .type "object"] "ValueError.__new__" = true ∧ g.mg c = some (.ref C) ∧ PySem.W.keepIn g.K (.ref C) = true ∧ PySem.W.subIn g.K (.ref C) (.type "BaseException") = some true ∧ PySem.W.typeIn g.K (.ref C) = some (.type "type")
def sRaise (c : Str) : Sx := fun ρ => .exc c ρ
theorem s_raise {x m : Str} {j : Nat} {p p2 p3 : Pos} (h : Exc g x) (hg : Glo g x := by rfl) (hdb : (x == ("__debug__" : Str)) = false := by decide) : SOk g (.Raise (some (.Call (.Name x p) [.Constant (.str m) j p2] [] p3)) none pos) (sRaise x) := fun X W A tk => by
  obtain ⟨C, h1, h2, h3, h4, h5⟩ := h.ex
  rw [← A.K] at h1 h3 h4 h5
  refine PS.imp (ps_raise A.calm tk (pmk_own PySem.F.excBase_ValueError h1 (by rw [A.mg]; exact h2) h3 (raises_own h4 h5) (hg.gl A.toAt) hdb)) fun D σ H ⟨ρ, R, q⟩ => ?_
  exact q _ σ H (Ext.refl H) R h2
/-! ### try -/
/-- the class x in an except clause: which classes it catches -/
structure Cat (g : Cf) (x : Str) (tab : List (Str × Bool)) : Prop where
  ex : ∃ cv : Value, ((x == ("__debug__" : Str)) = false ∧ (g.mg x = some cv ∨ (g.mg x = none ∧ bootBuiltins x = some cv ∧ x ≠ "__name__"))) ∧ ∀ c b, (c, b) ∈ tab → ∃ C, g.mg c = some (.ref C) ∧ PySem.W.exmOne g.K (.ref C) cv = some b
/-- isinstance(an exception, x): for which classes -/
structure IsE (g : Cf) (x : Str) (tab : List (Str × Bool)) : Prop where
  ex : ∃ (v : V) (cv : Value), RelV v cv ∧ (∀ u, RelV v u → u = cv) ∧ (x == ("__debug__" : Str)) = false ∧ (g.mg x = some cv ∨ (g.mg x = none ∧ bootBuiltins x = some cv ∧ x ≠ "__name__")) ∧ ∀ c b, (c, b) ∈ tab → ∃ C, g.mg c = some (.ref C) ∧ ExcC g.K C ∧ PySem.W.kitOne g.K (.ref C) cv = some b
abbrev Hx := Str → Option D
def look (tab : List (Str × Bool)) (c : Str) : Option Bool := (tab.find? fun p => p.1 = c).map (·.2)
theorem look_mem {tab : List (Str × Bool)} {c : Str} {b : Bool} (h : look tab c = some b) : (c, b) ∈ tab := by
  unfold look at h
  cases hf : tab.find? (fun p => p.1 = c) with
  | none => rw [hf] at h; cases h
  | some p =>
    rw [hf] at h
    cases h
    have h1 := List.find?_some hf
    have h2 := List.mem_of_find?_eq_some hf
    obtain ⟨p1, p2⟩ := p
    have h3 : p1 = c := by simpa using h1
    rw [← h3]
    exact h2
def HOk (g : Cf) (n : Str) (i : Nat) (e : Expr) (h : Hx) : Prop := ∀ (X : Cx), At g X → ∀ (a : Addr) (oe : Obj) (cls : Value) (pn : List (Addr × Obj)) (c : Str), Zc cls none oe → (∃ vs, oe.data = .fields vs) → g.mg c = some cls →
  PE (X.suite a ((a, oe) :: pn)) e (fun σ H Q => (n = "" ∨ σ[i]? = some (some (.ref a))) ∧ ∃ d, h c = some d ∧ ∀ x H', Same H H' → Imm X.K H' d x → Q x H')
def hC (d : D) : Hx := fun _ => some d
theorem h_bl {n : Str} {i : Nat} {k : Bool} {j : Nat} : HOk g n i (.Constant (.bool k) j pos) (hC (.bl k)) := fun X A a oe cls pn c hz hf hm => PE.imp pe_bl fun σ H Q ⟨_, d, h, q⟩ => by cases h; exact q _ H (Same.refl H) rfl
theorem h_str {n : Str} {i : Nat} {k : Str} {j : Nat} : HOk g n i (.Constant (.str k) j pos) (hC (.str k)) := fun X A a oe cls pn c hz hf hm => PE.imp pe_str fun σ H Q ⟨_, d, h, q⟩ => by cases h; exact q _ H (Same.refl H) rfl
theorem h_non {n : Str} {i : Nat} {j : Nat} : HOk g n i (.Constant .none j pos) (hC .non) := fun X A a oe cls pn c hz hf hm => PE.imp pe_non fun σ H Q ⟨_, d, h, q⟩ => by cases h; exact q _ H (Same.refl H) rfl
def hIs (tab : List (Str × Bool)) : Hx := fun c => (look tab c).map .bl
theorem h_isi {n x : Str} {i : Nat} {p p1 p2 : Pos} {tab : List (Str × Bool)} (h : IsE g x tab) (hN : g.N[i]? = some n) (hn : n ≠ "" := by decide) (hmi : g.mg "isinstance" = none) (hg : Glo g "isinstance" := by rfl) (hgx : Glo g x := by rfl) (hv : Vis g.sc n := by first | exact Or.inl rfl | exact Or.inr (Or.inl rfl) | exact Or.inr (Or.inr rfl)) (hd : (n == ("__debug__" : Str)) = false := by decide) (hcd : (n == ("__classdict__" : Str)) = false := by decide) :
    HOk g n i (.Call (.Name "isinstance" p) [.Name n p1, .Name x p2] [] pos) (hIs tab) := fun X A a oe cls pn c hz hf hm => by
  obtain ⟨v, cv, rv, ru, hdb, hx, ht⟩ := h.ex
  have hN' : (X.suite a ((a, oe) :: pn)).N[i]? = some n := by show X.N[i]? = _; rw [A.N]; exact hN
  have hv' : Vis (X.suite a ((a, oe) :: pn)).env.scope n := by show Vis X.env.scope n; unfold Vis; rw [A.sc]; exact hv
  have hGx : Gl X x := hgx.gl A
  have hGi : Gl X "isinstance" := hg.gl A
  have pn1 : PE (X.suite a ((a, oe) :: pn)) (.Name n p1) (tVar i) := pe_var hN' hv' hd hcd
  have px : PE (X.suite a ((a, oe) :: pn)) (.Name x p2) (tC v) := by
    rcases hx with hx | ⟨hx1, hx2, hx3⟩
    · exact pe_glob (X := X.suite a ((a, oe) :: pn)) hGx (by show X.mg x = _; rw [A.mg]; exact hx) rv hdb
    · exact pe_bltn (X := X.suite a ((a, oe) :: pn)) hGx (by show X.mg x = _; rw [A.mg]; exact hx1) hx2 rv hx3 hdb
  refine ⟨fun pins s σ H Q I ⟨hs, d, hh, q⟩ => ?_⟩
  unfold hIs at hh
  cases hl : look tab c with
  | none => rw [hl] at hh; cases hh
  | some b =>
    rw [hl] at hh
    cases hh
    obtain ⟨C, hm2, hE, hk⟩ := ht c b (look_mem hl)
    rw [hm] at hm2
    cases hm2
    have hE' : ExcC X.K C := by rw [A.K]; exact hE
    have hk' : PySem.W.kitOne X.K (.ref C) cv = some b := by rw [A.K]; exact hk
    refine (pe_callB (call_isE hE' hz hf) hGi (by show X.mg _ = _; rw [A.mg]; exact hmi) (by decide +kernel) (pa_cons pn1 (pa_cons px pa_nil)) (by decide) (by decide)).run pins s σ H Q I ?_
    refine ⟨.ref a, hs.resolve_left hn, v, cv, b, rfl, ru, hk', q _ H (Same.refl H) rfl⟩
def hAnd (h1 h2 : Hx) : Hx := fun c => match h1 c with
  | some (.bl true) => h2 c
  | some (.bl false) => some (.bl false)
  | _ => none
def hNot (h1 : Hx) : Hx := fun c => match h1 c with
  | some (.bl k) => some (.bl (!k))
  | _ => none
theorem h_one {n : Str} {i : Nat} {op : BoolOp} {h : Hx} (h1 : HOk g n i a h) : HOk g n i (.BoolOp op [a] pos) h := fun X A a oe cls pn c hz hf hm => pe_one (h1 X A a oe cls pn c hz hf hm)
theorem h_and {n : Str} {i : Nat} {rest : List Expr} {h h' : Hx} (h1 : HOk g n i a h) (h2 : HOk g n i (.BoolOp .And (b :: rest) pos) h') : HOk g n i (.BoolOp .And (a :: b :: rest) pos) (hAnd h h') := fun X A ad oe cls pn c hz hf hm => by
  refine PE.imp (pe_and (h1 X A ad oe cls pn c hz hf hm) (h2 X A ad oe cls pn c hz hf hm)) fun σ H Q ⟨hs, d, hh, q⟩ => ?_
  unfold hAnd at hh
  split at hh
  · rename_i k1
    refine ⟨hs, _, k1, fun x H' sm im => ⟨true, im, ?_⟩⟩
    exact iteT ⟨hs, d, hh, fun y H2 sm2 im2 => q y H2 (sm.trans sm2) im2⟩
  · rename_i k1
    cases hh
    exact ⟨hs, _, k1, fun x H' sm im => ⟨false, im, iteF (q _ H' sm rfl)⟩⟩
  · cases hh
theorem h_not {n : Str} {i : Nat} {h : Hx} (h1 : HOk g n i a h) : HOk g n i (.UnaryOp .Not a pos) (hNot h) := fun X A ad oe cls pn c hz hf hm => by
  refine PE.imp (pe_not (h1 X A ad oe cls pn c hz hf hm)) fun σ H Q ⟨hs, d, hh, q⟩ => ?_
  unfold hNot at hh
  split at hh
  · rename_i k k1
    cases hh
    exact ⟨hs, _, k1, fun x H' sm im => ⟨k, im, q _ H' sm rfl⟩⟩
  · cases hh
def sTry (need : Nat) (tab : List (Str × Bool)) (h : Hx) (f : Sx) : Sx := fun ρ => match f ρ with
  | .ok r => .ok r
  | .stuck => .stuck
  | .exc c ρ' => match look tab c with
    | some true => (match h c with
      | some d => if need ≤ ρ'.length then .ok (.ret (.v d) ρ') else .stuck
      | none => .stuck)
    | some false => .exc c ρ'
    | none => .stuck
theorem AtS.tr (A : AtS g X) {pn : List (Addr × Obj)} {xe : Value → Shared → Prop} (p : PassesOwn (model X.prog X.w) X.A X.env xe) : AtS g (X.tr pn xe) where
  prog := A.prog
  w := A.w
  K := A.K
  mg := A.mg
  base := A.base
  N := A.N
  sc := A.sc
  fn := A.fn
  room := A.room
  calm := A.calm
  own := p
  stk := A.stk
  fr := A.fr
/-- what the suite wishes -/
def tH (g : Cf) (K : PySem.W.Frag) (n : Str) (i : Nat) (h : Hx) (a : Addr) (cls : Value) (d : Option Addr) : TS := fun D σ H => d = none ∧ ∃ c dv, g.mg c = some cls ∧ (n = "" ∨ σ[i]? = some (some (.ref a))) ∧ h c = some dv ∧ ∀ x H', Same H H' → Imm K H' dv x → D.rt x H'
theorem suite_ok {n : Str} {i : Nat} {h : Hx} {p1 : Pos} (A : At g X) (hh : HOk g n i e h) (a : Addr) (oe : Obj) (cls : Value) (d : Option Addr) (pn : List (Addr × Obj)) (hz : Zc cls d oe) (hf : ∃ vs, oe.data = .fields vs) : PSs (X.suite a ((a, oe) :: pn)) [.Return (some e) p1] (tH g X.K n i h a cls d) := by
  refine pss_one ⟨fun pins s σ H D I ⟨hd, c, dv, hm, hs, hc, q⟩ => ?_⟩
  subst hd
  exact (ps_ret (hh X A a oe cls pn c hz hf hm)).run pins s σ H D I ⟨hs, dv, hc, q⟩
theorem try_read {need : Nat} {tab : List (Str × Bool)} {h : Hx} {f : Sx} {D : Ends} {σ : L2.St} {H : Hp} {W' : WX} (t : tS K g (sTry need tab h f) W D σ H)
    (hw : ∀ c ρ' cls σ' H', Ext H H' → ER K g ρ' σ' H' → g.mg c = some cls → ∀ b, look tab c = some b → (b = true → need ≤ ρ'.length ∧ ∃ d, h c = some d ∧ ∀ x H2, Same H' H2 → Imm K H2 d x → D.rt x H2) → (b = false → W cls none σ' H') → W' cls none σ' H') : tS K g f W' D σ H := by
  obtain ⟨ρ, R, q⟩ := t
  refine ⟨ρ, R, ?_⟩
  unfold sTry at q
  cases hf : f ρ with
  | stuck => rw [hf] at q; exact q.elim
  | ok r =>
    rw [hf] at q
    have q : PsS K g H W D (.ok r) := q
    cases r <;> exact q
  | exc c ρ' =>
    rw [hf] at q
    dsimp only at q
    intro cls σ' H' E' R' hm
    cases hl : look tab c with
    | none => rw [hl] at q; exact q.elim
    | some b =>
      rw [hl] at q
      refine hw c ρ' cls σ' H' E' R' hm b hl (fun hb => ?_) (fun hb => ?_)
      · subst hb
        dsimp only at q
        cases hc : h c with
        | none => rw [hc] at q; exact q.elim
        | some d =>
          rw [hc] at q
          dsimp only at q
          split at q
          case isFalse => exact q.elim
          rename_i hlen
          exact ⟨hlen, d, rfl, fun x H2 sm im => q σ' H2 x (E'.trans (Ext.of_same sm)) (R'.same sm) im⟩
      · subst hb
        exact q cls σ' H' E' R' hm
theorem s_try {body : List Stmt} {x n : Str} {i : Nat} {np p1 pos' : Pos} {tab : List (Str × Bool)} {h : Hx} {f : Sx} (hx : Cat g x tab) (hb : SsOk g body f) (hh : HOk g n i e h) (hN : g.N[i]? = some n) (nd : g.N.Nodup) (hloc : g.sc.names.lookup n = some .local) (hgx : Glo g x := by rfl) :
    SOk g (.Try body [.ExceptHandler (some (.Name x np)) (some n) [.Return (some e) p1] pos'] [] [] pos) (sTry (i + 1) tab h f) := fun X W A tk => by
  obtain ⟨cv, ⟨hdb, hx1⟩, ht⟩ := hx.ex
  have hi : X.N[i]? = some n := by rw [A.N]; exact hN
  have key := ps_try_as (pos := pos) (pos' := pos') (np := np) (x := x) (c := cv) (body := body) (tb := fun W => tS X.K g f W) (ts := tH g X.K n i h) A.stk A.fr (by rw [A.N]; exact nd) hi (by show X.env.scope.names.lookup n = _; rw [A.sc]; exact hloc) ⟨hgx.gl A.toAt, hdb, by rw [A.mg]; exact hx1⟩ tk
    (fun W pn xe tk' p => hb _ W (A.tr p) tk') (fun a oe cls d pn hz hf => suite_ok (p1 := p1) A.toAt hh a oe cls d pn hz hf)
  refine ⟨fun pins s σ H D I t => ?_⟩
  refine key.run pins s σ H D I (try_read t fun c ρ' cls σ' H' E' R' hm b hl hy hn => ?_)
  obtain ⟨C, hm2, hk⟩ := ht c b (look_mem hl)
  rw [hm] at hm2
  cases hm2
  refine ⟨b, by rw [A.K]; exact hk, fun hb a ha => ?_, hn⟩
  obtain ⟨hlen, d, hd, q⟩ := hy hb
  refine ⟨rfl, c, d, hm, .inr ?_, hd, q⟩
  exact List.getElem?_set_self (by rw [← R'.len]; omega)
theorem s_tryN {body : List Stmt} {x : Str} {np p1 pos' : Pos} {tab : List (Str × Bool)} {h : Hx} {f : Sx} (hx : Cat g x tab) (hb : SsOk g body f) (hh : HOk g "" 0 e h) (hgx : Glo g x := by rfl) :
    SOk g (.Try body [.ExceptHandler (some (.Name x np)) none [.Return (some e) p1] pos'] [] [] pos) (sTry 0 tab h f) := fun X W A tk => by
  obtain ⟨cv, ⟨hdb, hx1⟩, ht⟩ := hx.ex
  have key := ps_try_only (pos := pos) (pos' := pos') (np := np) (x := x) (c := cv) (body := body) (tb := fun W => tS X.K g f W) (ts := tH g X.K "" 0 h) A.stk A.fr ⟨hgx.gl A.toAt, hdb, by rw [A.mg]; exact hx1⟩ tk
    (fun W pn xe tk' p => hb _ W (A.tr p) tk') (fun a oe cls d pn hz hf => suite_ok (p1 := p1) A.toAt hh a oe cls d pn hz hf)
  refine PS.imp key fun D σ H t => try_read t fun c ρ' cls σ' H' E' R' hm b hl hy hn => ?_
  obtain ⟨C, hm2, hk⟩ := ht c b (look_mem hl)
  rw [hm] at hm2
  cases hm2
  refine ⟨b, by rw [A.K]; exact hk, fun hb a ha => ?_, hn⟩
  obtain ⟨hlen, d, hd, q⟩ := hy hb
  exact ⟨rfl, c, d, hm, .inl rfl, hd, q⟩
end
end PL
namespace PL
open PySem PySem.Spec PyProof.Rows L2
/-- a def, apart from a body's configuration -/
structure Cal0 (P : Program) (w : World) (K : PySem.W.Frag) (mg : Str → Option Value) (base : Heap) (k : Nat) (x : Str) (n : Nat) (F : Fn) : Prop where
  ex : ∃ (f : Addr) (fd : FuncData) (ps : List Str), FnOk P w K mg base (L2.CX P w) k f fd ps (spF K mg n F) ∧ mg x = some (.ref f) ∧ PySem.W.keepIn K (.ref f) = true ∧ Binds K fd ps []
theorem Cal0.cal {P : Program} {w : World} {K : PySem.W.Frag} {mg : Str → Option Value} {base : Heap} {j k : Nat} {x : Str} {n : Nat} {F : Fn} (h : Cal0 P w K mg base j x n F) (hk : j ≤ k) {N : List Str} {sc : Scope} {fn : Str → Bool} {H0 : Hp} {io : List (Nat × Addr)} : Cal ⟨P, w, K, mg, base, N, sc, fn, k, H0, io⟩ x n F := by
  obtain ⟨f, fd, ps, h1, h2⟩ := h.ex
  exact ⟨f, fd, ps, h1.mono hk, h2⟩
/-- what the written part says of a def -/
def FnT (K : PySem.W.Frag) (mg : Str → Option Value) (x : Str) (st : Stmt) (ps : List Str) : Prop := ∃ (f : Addr) (fd : FuncData), mg x = some (.ref f) ∧ L2.Fun K x x st f fd ∧ PySem.W.keepIn K (.ref f) = true ∧ Binds K fd ps []
theorem Cal0.of {P : Program} {w : World} {K : PySem.W.Frag} {mg : Str → Option Value} {base : Heap} {k : Nat} {x : Str} {n m : Nat} {f : Sx} {st : Stmt} {N ps : List Str} (T : FnT K mg x st ps) (S : FnScope N ps (defScope st)) (hn : ps.length = n) (hm : N.length = n + m)
    (hb : ∀ H0, SsOk ⟨P, w, K, mg, base, N, defScope st, fun _ => true, k, H0, []⟩ (defBody st) f) : Cal0 P w K mg base (k + 1) x n (runF m f) := by
  obtain ⟨fa, fd, h1, h2, h3, h4⟩ := T
  exact ⟨fa, fd, ps, fn_ok h2 S hn hm hb, h1, h3, h4⟩
theorem FnT.mk' {K : PySem.W.Frag} {h : Heap} {mg : Str → Option Value} {x : Str} {st : Stmt} {ps : List Str} (X : K.In h) (G : h.Ns mainGlobals mg) {f : Addr} {oc : Value} {od an : Option Addr} {osl : Array (Option Value)} {kV doc pm cdv ct : Value}
    (a : PySem.W.nsIn K mainGlobals x = some (some (.ref f))) (l : K.lookup f = some ⟨oc, od, .func (PySem.W.fnOf x x (defArgs st) (defBody st) (defScope st) .none kV doc pm an cdv ct), osl⟩) (c : PySem.W.codeIn K cdv x = true) (k : PySem.W.keepIn K (.ref f) = true)
    (b : ∀ (kV doc pm : Value) (an : Option Addr) (cdv ct : Value) (us : List Value), us.length = ps.length → bindArgs (PySem.W.fnOf x x (defArgs st) (defBody st) (defScope st) .none kV doc pm an cdv ct) ⟨us, []⟩ = pure (ps.zip us)) : FnT K mg x st ps :=
  ⟨f, _, PySem.W.mg_of X G a, fun_mk l c k, k, (fun_mk l c k).binds b⟩
/-- raw facts, apart from a body's configuration -/
def Con0 (K : PySem.W.Frag) (mg : Str → Option Value) (x : Str) (d : D) : Prop := ∃ u v, mg x = some u ∧ RelV v u ∧ ∀ H, Imm K H d v
def Exc0 (K : PySem.W.Frag) (mg : Str → Option Value) (c : Str) : Prop := ∃ C : Addr, PySem.W.excIn K C [.type "ValueError", .type "Exception", .type "BaseException", .type "object"] "ValueError.__new__" = true ∧ mg c = some (.ref C) ∧ PySem.W.keepIn K (.ref C) = true ∧ PySem.W.subIn K (.ref C) (.type "BaseException") = some true ∧ PySem.W.typeIn K (.ref C) = some (.type "type")
def Cat0 (K : PySem.W.Frag) (mg : Str → Option Value) (x : Str) (tab : List (Str × Bool)) : Prop := ∃ cv : Value, ((x == ("__debug__" : Str)) = false ∧ (mg x = some cv ∨ (mg x = none ∧ bootBuiltins x = some cv ∧ x ≠ "__name__"))) ∧ ∀ c b, (c, b) ∈ tab → ∃ C, mg c = some (.ref C) ∧ PySem.W.exmOne K (.ref C) cv = some b
def IsE0 (K : PySem.W.Frag) (mg : Str → Option Value) (x : Str) (tab : List (Str × Bool)) : Prop := ∃ (v : V) (cv : Value), RelV v cv ∧ (∀ u, RelV v u → u = cv) ∧ (x == ("__debug__" : Str)) = false ∧ (mg x = some cv ∨ (mg x = none ∧ bootBuiltins x = some cv ∧ x ≠ "__name__")) ∧ ∀ c b, (c, b) ∈ tab → ∃ C, mg c = some (.ref C) ∧ ExcC K C ∧ PySem.W.kitOne K (.ref C) cv = some b
section
variable {K : PySem.W.Frag} {h : Heap} {mg : Str → Option Value} {x : Str}
theorem Con0.int (X : K.In h) (G : h.Ns mainGlobals mg) {i : Int} {t : Tok} (a : PySem.W.nsIn K mainGlobals x = some (some (.int i t))) : Con0 K mg x (.int i) := ⟨_, .int i, PySem.W.mg_of X G a, ⟨t, rfl⟩, fun _ => rfl⟩
theorem Con0.str (X : K.In h) (G : h.Ns mainGlobals mg) {i : Str} {t : Tok} (a : PySem.W.nsIn K mainGlobals x = some (some (.str i t))) : Con0 K mg x (.str i) := ⟨_, .str i, PySem.W.mg_of X G a, ⟨t, rfl⟩, fun _ => rfl⟩
theorem Con0.bl (X : K.In h) (G : h.Ns mainGlobals mg) {i : Bool} (a : PySem.W.nsIn K mainGlobals x = some (some (.bool i))) : Con0 K mg x (.bl i) := ⟨_, .bl i, PySem.W.mg_of X G a, rfl, fun _ => rfl⟩
theorem Exc0.mk' (X : K.In h) (G : h.Ns mainGlobals mg) {C : Addr} (a : PySem.W.nsIn K mainGlobals x = some (some (.ref C))) (e : PySem.W.excIn K C [.type "ValueError", .type "Exception", .type "BaseException", .type "object"] "ValueError.__new__" = true) (k : PySem.W.keepIn K (.ref C) = true)
    (s : PySem.W.subIn K (.ref C) (.type "BaseException") = some true) (t : PySem.W.typeIn K (.ref C) = some (.type "type")) : Exc0 K mg x := ⟨C, e, PySem.W.mg_of X G a, k, s, t⟩
theorem Cat0.nil (X : K.In h) (G : h.Ns mainGlobals mg) {C : Addr} (a : PySem.W.nsIn K mainGlobals x = some (some (.ref C))) (hd : (x == ("__debug__" : Str)) = false := by decide) : Cat0 K mg x [] := ⟨_, ⟨hd, .inl (PySem.W.mg_of X G a)⟩, fun _ _ h => by cases h⟩
theorem Cat0.cons (X : K.In h) (G : h.Ns mainGlobals mg) {C D : Addr} {c : Str} {b : Bool} {tab : List (Str × Bool)} (aC : PySem.W.nsIn K mainGlobals x = some (some (.ref C))) (aD : PySem.W.nsIn K mainGlobals c = some (some (.ref D)))
    (h1 : PySem.W.subIn K (.ref C) (.type "BaseException") = some true) (h2 : PySem.W.hasDictIn K C = true) (h3 : PySem.W.typeIn K (.ref C) = some (.type "type")) (h4 : PySem.W.subIn K (.ref D) (.ref C) = some b) (r : Cat0 K mg x tab) : Cat0 K mg x ((c, b) :: tab) := by
  obtain ⟨cv, ⟨r1, r2⟩, r3⟩ := r
  have hx := PySem.W.mg_of X G aC
  have ecv : cv = .ref C := by
    rcases r2 with r2 | ⟨r2, _⟩
    · rw [hx] at r2; exact (Option.some.inj r2).symm
    · rw [hx] at r2; cases r2
  subst ecv
  refine ⟨_, ⟨r1, .inl hx⟩, fun c' b' hm => ?_⟩
  rcases List.mem_cons.mp hm with e | hm
  · cases e
    exact ⟨D, PySem.W.mg_of X G aD, PySem.W.exm_ref h1 h2 h3 h4⟩
  · exact r3 c' b' hm
theorem IsE0.nil (X : K.In h) (G : h.Ns mainGlobals mg) {C : Addr} (a : PySem.W.nsIn K mainGlobals x = some (some (.ref C))) (hd : (x == ("__debug__" : Str)) = false := by decide) : IsE0 K mg x [] := ⟨.ref C, .ref C, rfl, fun _ r => r, hd, .inl (PySem.W.mg_of X G a), fun _ _ h => by cases h⟩
theorem IsE0.nilB (X : K.In h) (G : h.Ns mainGlobals mg) {t : String} (a : PySem.W.nsIn K mainGlobals x = some none) (hb : bootBuiltins x = some (.type t)) (hn : x ≠ "__name__" := by decide) (hd : (x == ("__debug__" : Str)) = false := by decide) : IsE0 K mg x [] := ⟨.ty t, .type t, rfl, fun _ r => r, hd, .inr ⟨PySem.W.mg_none_of X G a, hb, hn⟩, fun _ _ h => by cases h⟩
theorem IsE0.cons (X : K.In h) (G : h.Ns mainGlobals mg) {C D : Addr} {c : Str} {b : Bool} {tab : List (Str × Bool)} (aC : PySem.W.nsIn K mainGlobals x = some (some (.ref C))) (aD : PySem.W.nsIn K mainGlobals c = some (some (.ref D)))
    (e : ExcC K D) (h4 : PySem.W.kitOne K (.ref D) (.ref C) = some b) (r : IsE0 K mg x tab) : IsE0 K mg x ((c, b) :: tab) := by
  obtain ⟨v, cv, r1, r2, r3, r4, r5⟩ := r
  have hx := PySem.W.mg_of X G aC
  have ecv : cv = .ref C := by
    rcases r4 with r4 | ⟨r4, _⟩
    · rw [hx] at r4; exact (Option.some.inj r4).symm
    · rw [hx] at r4; cases r4
  subst ecv
  refine ⟨v, _, r1, r2, r3, .inl hx, fun c' b' hm => ?_⟩
  rcases List.mem_cons.mp hm with e' | hm
  · cases e'
    exact ⟨D, PySem.W.mg_of X G aD, e, h4⟩
  · exact r5 c' b' hm
theorem IsE0.consB (X : K.In h) (G : h.Ns mainGlobals mg) {t : String} {D : Addr} {c : Str} {b : Bool} {tab : List (Str × Bool)} (a : PySem.W.nsIn K mainGlobals x = some none) (hb : bootBuiltins x = some (.type t)) (aD : PySem.W.nsIn K mainGlobals c = some (some (.ref D)))
    (e : ExcC K D) (h4 : PySem.W.kitOne K (.ref D) (.type t) = some b) (r : IsE0 K mg x tab) : IsE0 K mg x ((c, b) :: tab) := by
  obtain ⟨v, cv, r1, r2, r3, r4, r5⟩ := r
  have hx := PySem.W.mg_none_of X G a
  rcases r4 with r4 | ⟨r4, r4b, r4n⟩
  · rw [hx] at r4; cases r4
  · have ecv : cv = .type t := by rw [hb] at r4b; exact (Option.some.inj r4b).symm
    subst ecv
    refine ⟨v, _, r1, r2, r3, .inr ⟨hx, hb, r4n⟩, fun c' b' hm => ?_⟩
    rcases List.mem_cons.mp hm with e' | hm
    · cases e'
      exact ⟨D, PySem.W.mg_of X G aD, e, h4⟩
    · exact r5 c' b' hm
end
/-! ### the law's own head -/
def spL (K : PySem.W.Frag) : Sp := fun vs H Q _ => ∃ (a : Addr) (ns : List Int), vs = [.ref a] ∧ ScrL K H a (ns.map V.int) ∧ ns.length ≤ 63 ∧ ∀ H', Q (.bl true) H'
theorem spL_of {K : PySem.W.Frag} {H : Hp} {a : Addr} {ns : List Int} (hl : ns.length ≤ 63) (hO : L2.Only H) (hS : SqL K H a (ns.map V.int)) : spL K [.ref a] H (fun v _ => v = .bl true) fun _ _ _ => False := by
  refine ⟨a, ns, rfl, ?_, hl, fun _ => rfl⟩
  rcases hS with (h | h) | h
  · rcases hO a with z | ⟨o, xs, z⟩
    · rw [h] at z; cases z
    · rw [h] at z; cases z
  · exact .inl h
  · exact .inr h
theorem fnL {P : Program} {w : World} {K : PySem.W.Frag} {mg : Str → Option Value} {base : Heap} {CX : CXT} {k : Nat} {f : Addr} {fd : FuncData} {ps : List Str} {F : Fn} (h : FnOk P w K mg base CX k f fd ps (spF K mg 1 F)) (hF : ∀ ns : List Int, ns.length ≤ 63 → F [.scr ns] = .ok (.v (.bl true))) : FnOk P w K mg base CX k f fd ps (spL K) :=
  h.imp fun vs H Q E ⟨a, ns, e, hs, hl, q⟩ => by
    subst e
    refine ⟨[.scr ns], rfl, ⟨_, _, rfl, ⟨a, rfl, hs⟩, rfl⟩, ?_⟩
    rw [hF ns hl]
    exact fun H' x _ r => by cases (show _ = _ from r); exact q H'
theorem noCX {P : Program} {w : World} {H : Hp} {s : Shared} {e : Value} {s' : Shared} (h : L2.CX P w [] H s (fun _ _ _ => False) e s') : False := by
  obtain ⟨_, _, _, _, _, _, _, _, _, _, _, _, z⟩ := h
  exact z
theorem Cal0.none_ {P : Program} {w : World} {K : PySem.W.Frag} {mg : Str → Option Value} {base : Heap} {k : Nat} {x : Str} {n : Nat} {st : Stmt} {ps : List Str} (T : FnT K mg x st ps) : Cal0 P w K mg base k x n (fun _ => .stuck) := by
  obtain ⟨fa, fd, h1, h2, h3, h4⟩ := T
  exact ⟨fa, fd, ps, ⟨fun vs H Q E h => by obtain ⟨_, _, _, z⟩ := h; exact z.elim, fun A outer s H args us vs Q E _ _ _ _ h => by obtain ⟨_, _, _, z⟩ := h; exact z.elim⟩, h1, h3, h4⟩
end PL

namespace PL
open PySem PySem.Spec PyProof.Rows L2
/-! ### own objects change -/
def ownD (ρ : Rho) (i : Nat) : Option D := match ρ[i]? with
  | some (some (.o d)) => some d
  | _ => none
theorem ownD_is {ρ : Rho} {i : Nat} {d : D} (h : ownD ρ i = some d) : ρ[i]? = some (some (.o d)) := by
  unfold ownD at h
  split at h
  · rename_i d' h'; cases h; exact h'
  · cases h
def putO (ρ : Rho) (i : Nat) (d : D) : Rho := ρ.set i (some (.o d))
theorem ER.put {K : PySem.W.Frag} {g : Cf} {ρ : Rho} {σ : L2.St} {H H' : Hp} {i : Nat} {d d' : D} {a : Addr} (R : ER K g ρ σ H) (hi : ρ[i]? = some (some (.o d))) (ha : σ[i]? = some (some (.ref a))) (e : ∀ b, b ≠ a → H' b = H b) (x : Ext H H') (o : OwnAt K H' a d') : ER K g (putO ρ i d') σ H' := by
  have hlt : i < ρ.length := by
    rcases Nat.lt_or_ge i ρ.length with z | z
    · exact z
    · rw [List.getElem?_eq_none z] at hi; cases hi
  have gρ : ∀ j, (putO ρ i d')[j]? = if j = i then some (some (.o d')) else ρ[j]? := fun j => by
    unfold putO
    by_cases hj : j = i
    · subst hj; rw [if_pos rfl, List.getElem?_set_self hlt]
    · rw [if_neg hj, List.getElem?_set_ne (Ne.symm hj)]
  have un : ∀ {j : Nat} {dj : D}, (putO ρ i d')[j]? = some (some (S.o dj)) → ∃ dk : D, ρ[j]? = some (some (S.o dk)) := fun {j dj} h => by
    rw [gρ] at h
    by_cases hj : j = i
    · subst hj; exact ⟨d, hi⟩
    · rw [if_neg hj] at h; exact ⟨_, h⟩
  refine ⟨by unfold putO; rw [List.length_set]; exact R.len, fun j dj h => ?_, fun j dj h => ?_, fun j m h => ?_, fun j m dj dm b h1 h2 h3 h4 => ?_, fun b ob h q => ?_, fun j dj b h1 h2 => ?_, fun p hp => ?_⟩
  · rw [gρ] at h
    by_cases hj : j = i
    · rw [if_pos hj] at h; cases h
    · rw [if_neg hj] at h
      obtain ⟨y, h1, h2⟩ := R.val j dj h
      exact ⟨y, h1, Imm.ext x _ _ h2⟩
  · rw [gρ] at h
    by_cases hj : j = i
    · rw [if_pos hj] at h; cases h; subst hj; exact ⟨a, ha, o⟩
    · rw [if_neg hj] at h
      obtain ⟨b, h1, h2⟩ := R.own j dj h
      have hb : b ≠ a := fun z => hj (R.sep j i dj d a h hi (z ▸ h1) ha)
      exact ⟨b, h1, h2.ext x (e b hb)⟩
  · rw [gρ] at h
    by_cases hj : j = i
    · rw [if_pos hj] at h; cases h
    · rw [if_neg hj] at h; exact R.bor j m h
  · obtain ⟨k1, h1'⟩ := un h1
    obtain ⟨k2, h2'⟩ := un h2
    exact R.sep j m k1 k2 b h1' h2' h3 h4
  · have hb : b ≠ a := fun z => by
      subst z
      rcases R.new i d b hi ha with h0 | h0
      · rw [h0] at h; cases h
      · exact q _ h0 rfl
    rw [e b hb]
    exact R.old b ob h q
  · obtain ⟨k1, h1'⟩ := un h1
    exact R.new j k1 b h1' h2
  · obtain ⟨h1, dj, h2⟩ := R.io p hp
    refine ⟨h1, ?_⟩
    rw [gρ]
    by_cases hj : p.1 = i
    · rw [if_pos hj]; exact ⟨_, rfl⟩
    · rw [if_neg hj]; exact ⟨_, h2⟩
/-- the own list is overwritten -/
theorem lst_upd {K : PySem.W.Frag} {H : Hp} {a : Addr} {xs ys : List V} {es : List D} (h : H a = some (.lst xs)) (im : ImmL K H es ys) : Ext H (upd H a (.lst ys)) ∧ (∀ b, b ≠ a → upd H a (.lst ys) b = H b) ∧ OwnAt K (upd H a (.lst ys)) a (.lst es) := by
  have x : Ext H (upd H a (.lst ys)) := mut_ext h True.intro fun b hb => upd_ne hb
  exact ⟨x, fun b hb => upd_ne hb, ys, upd_same, ImmL.ext x _ _ im⟩
section
variable {g : Cf} {X : Cx} {e a b c ie : Expr} {es : List Expr} {pos : Pos} {K : PySem.W.Frag} {W : WX}
/-- a method of an own list: its result, the list behind it -/
def MlR (X : Cx) (r : V → List V → Hp → VK → Prop) (od : List D → List D → Option (D × List D)) : Prop :=
  ∀ (a : Addr) (vs xs : List V) (H : Hp) (Q : VK) (ls ds ls' : List D) (z : D), H a = some (.lst vs) → ImmL X.K H ls vs → ImmL X.K H ds xs → od ls ds = some (z, ls') →
    (∀ y H', Ext H H' → (∀ b, b ≠ a → H' b = H b) → OwnAt X.K H' a (.lst ls') → Imm X.K H' z y → Q y H') → r (.ref a) xs H Q
def eMl (l : List Nat) (i : Nat) (od : List D → List D → Option (D × List D)) (fa : Ax) : Ex := fun ρ => match ownD ρ i with
  | some (.lst _) => aF l fa ρ >>= fun p => (match ownD p.2 i with
    | some (.lst ls) => liftO (od ls p.1) >>= fun q => .ok (.v q.1, putO p.2 i (.lst q.2))
    | _ => .stuck)
  | _ => .stuck
theorem tyL_of {K : PySem.W.Frag} {H : Hp} {a : Addr} {ds : List D} (o : OwnAt K H a (.lst ds)) : tyV K "list" (.ref a) H := by
  obtain ⟨vs, h, _⟩ := o
  exact .inl ⟨rfl, vs, SqL.of h⟩
theorem readMl {r : V → List V → Hp → VK → Prop} {od : List D → List D → Option (D × List D)} {i : Nat} {fa : Ax} {σ : L2.St} {H : Hp} {Q : VK} (h : MlR X r od) (t : tE X.K g (eMl g.ios i od fa) W σ H Q) :
    ∃ x, σ[i]? = some (some x) ∧ tyV X.K "list" x H ∧ tAF X.K g fa W σ H fun xs H2 => r x xs H2 Q := by
  obtain ⟨ρ, R, q⟩ := t
  unfold eMl at q
  split at q
  case h_2 => exact q.elim
  rename_i ls0 ho
  obtain ⟨a, ha, o⟩ := R.own i _ (ownD_is ho)
  refine ⟨_, ha, tyL_of o, ?_⟩
  refine tAF_step R q fun ds ρ1 xs H1 R1 E1 im q1 => ?_
  split at q1
  case h_2 => exact q1.elim
  rename_i ls ho1
  obtain ⟨p, hp, q2⟩ := q1.opt
  have hi := ownD_is ho1
  obtain ⟨a', ha', o'⟩ := R1.own i _ hi
  rw [ha] at ha'
  cases ha'
  obtain ⟨vs, hv, iv⟩ := o'
  refine h a vs xs H1 Q ls ds p.2 p.1 hv iv im hp fun y H' E2 k o2 iy => ?_
  exact q2 H' E2 (R1.put hi ha k E2 o2) y iy
theorem e_ml {x name : Str} {id : String} {i : Nat} {p apos : Pos} {r : V → List V → Hp → VK → Prop} {od : List D → List D → Option (D × List D)} {fa : Ax} (slot : PySem.Slot "list" name id) (hty : typeOf (.builtin id) = pure (.type "method_descriptor"))
    (hr : ∀ X, At g X → MtR X id r ∧ MlR X r od) (ha : AOk g (e :: es) fa) (hN : g.N[i]? = some x := by rfl) (hv : Vis g.sc x := by first | exact Or.inl rfl | exact Or.inr (Or.inl rfl) | exact Or.inr (Or.inr rfl)) (hd : (x == ("__debug__" : Str)) = false := by decide) (hcd : (x == ("__classdict__" : Str)) = false := by decide)
    (hbase : ∀ env, attributeBase (.Name x p) name env (eval (.Name x p) env) = eval (.Name x p) env := by intro _; rfl)
    (hfew : ∀ env, ((backTo pos (starEach (e :: es) env)).all (fun x => !x.1) && (backToKw pos (keywordEach [] env)).all (fun x => x.1.isSome)
      && decide ((e :: es).length + ([] : List Keyword).length + (if ([] : List Keyword).isEmpty then 0 else 1) < 30)) = true := by intro _; rfl)
    (hline : (apos.endLine == pos.line) = true := by rfl) (hs : ∀ env, starEach (e :: es) env = (false, eval e env) :: starEach es env := by intro _; rfl) (hpl : ∀ env, (backTo pos (starEach es env)).any (·.1) = false := by intro _; rfl) :
    EOk g (.Call (.Attribute (.Name x p) name apos) (e :: es) [] pos) (eMl g.ios i od fa) := fun X W A tk => by
  obtain ⟨h1, h2⟩ := hr X A
  refine PE.imp (pe_bm PySem.F.plainAttrs_list slot hty h1 (pe_var (i := i) (by rw [A.N]; exact hN) (by unfold Vis; rw [A.sc]; exact hv) hd hcd) (ha.f A tk) (hbase _) (hfew _) hline (hs _) (hpl _)) fun σ H Q t => ?_
  obtain ⟨x, k1, k2, k3⟩ := readMl h2 t
  exact ⟨x, k1, k2, k3⟩
theorem e_ml0 {x name : Str} {id : String} {i : Nat} {p apos : Pos} {r : V → List V → Hp → VK → Prop} {od : List D → List D → Option (D × List D)} (slot : PySem.Slot "list" name id) (hty : typeOf (.builtin id) = pure (.type "method_descriptor"))
    (hr : ∀ X, At g X → MtR X id r ∧ MlR X r od) (hN : g.N[i]? = some x := by rfl) (hv : Vis g.sc x := by first | exact Or.inl rfl | exact Or.inr (Or.inl rfl) | exact Or.inr (Or.inr rfl)) (hd : (x == ("__debug__" : Str)) = false := by decide) (hcd : (x == ("__classdict__" : Str)) = false := by decide)
    (hbase : ∀ env, attributeBase (.Name x p) name env (eval (.Name x p) env) = eval (.Name x p) env := by intro _; rfl)
    (hline : (apos.endLine == pos.line) = true := by rfl) :
    EOk g (.Call (.Attribute (.Name x p) name apos) [] [] pos) (eMl g.ios i od aNil) := fun X W A tk => by
  obtain ⟨h1, h2⟩ := hr X A
  refine PE.imp (pe_bm0 PySem.F.plainAttrs_list slot hty h1 (pe_var (i := i) (by rw [A.N]; exact hN) (by unfold Vis; rw [A.sc]; exact hv) hd hcd) (hbase _) hline) fun σ H Q t => ?_
  obtain ⟨x, k1, k2, ρ, R, k3⟩ := readMl h2 t
  exact ⟨x, k1, k2, k3 H (Ext.refl H) R [] rfl⟩
theorem immL_1 {K : PySem.W.Frag} {H : Hp} {d : D} {xs : List V} (h : ImmL K H [d] xs) : ∃ x, xs = [x] ∧ Imm K H d x := by
  obtain ⟨v, r, e, h1, h2⟩ := h
  cases (show _ = _ from h2)
  exact ⟨v, e, h1⟩
theorem immL_2 {K : PySem.W.Frag} {H : Hp} {d d' : D} {xs : List V} (h : ImmL K H [d, d'] xs) : ∃ x y, xs = [x, y] ∧ Imm K H d x ∧ Imm K H d' y := by
  obtain ⟨v, r, e, h1, h2⟩ := h
  obtain ⟨w, rfl, h3⟩ := immL_1 h2
  exact ⟨v, w, e, h1, h3⟩
def mAppend (ls ds : List D) : Option (D × List D) := match ds with
  | [d] => if ls.length < 16777216 then some (.non, ls ++ [d]) else none
  | _ => none
theorem m_append (A : At g X) : MtR X "list.append" rAppend ∧ MlR X rAppend mAppend := ⟨mt_append, fun a vs xs H Q ls ds ls' z hv iv im hod q => by
  match ds, hod with
  | [d], hod =>
    obtain ⟨x, rfl, ix⟩ := immL_1 im
    simp only [mAppend] at hod
    split at hod
    · rename_i hl
      cases hod
      obtain ⟨e1, e2, e3⟩ := lst_upd hv (iv.snoc ix)
      exact ⟨a, vs, x, rfl, rfl, hv, by rw [iv.len, sizeLine_eq]; exact hl, q _ _ e1 e2 e3 rfl⟩
    · cases hod⟩
def mPop (ls ds : List D) : Option (D × List D) := match ds with
  | [] => match ls[ls.length - 1]? with
    | some d => some (d, ls.dropLast)
    | none => none
  | _ => none
theorem immL_dropLast {K : PySem.W.Frag} {H : Hp} {ds : List D} {vs : List V} (h : ImmL K H ds vs) : ImmL K H ds.dropLast vs.dropLast := by
  rw [List.dropLast_eq_take, List.dropLast_eq_take, h.len]
  exact h.take _
theorem m_pop (A : At g X) : MtR X "list.pop" rPop ∧ MlR X rPop mPop := ⟨mt_pop, fun a vs xs H Q ls ds ls' z hv iv im hod q => by
  match ds, hod with
  | [], hod =>
    cases (show _ = _ from im)
    simp only [mPop] at hod
    split at hod
    · rename_i d hd
      cases hod
      obtain ⟨y, hy, iy⟩ := iv.get' hd
      obtain ⟨e1, e2, e3⟩ := lst_upd hv (immL_dropLast iv)
      exact ⟨a, vs, y, rfl, rfl, hv, by rw [iv.len]; exact hy, q _ _ e1 e2 e3 (Imm.ext e1 _ _ iy)⟩
    · cases hod⟩
def mPopAt (ls ds : List D) : Option (D × List D) := match ds with
  | [.int i] => if -(2 ^ 63) ≤ i ∧ i < 2 ^ 63 then (match seqIndex? i ls.length with
    | some k => (match ls[k]? with
      | some d => some (d, ls.eraseIdx k)
      | none => none)
    | none => none) else none
  | _ => none
theorem m_popAt (A : At g X) : MtR X "list.pop" rPopAt ∧ MlR X rPopAt mPopAt := ⟨mt_popAt, fun a vs xs H Q ls ds ls' z hv iv im hod q => by
  match ds, hod with
  | [.int i], hod =>
    obtain ⟨x, rfl, ix⟩ := immL_1 im
    cases (show _ = _ from ix)
    simp only [mPopAt] at hod
    split at hod
    case isFalse => cases hod
    rename_i hi
    split at hod
    case h_2 => cases hod
    rename_i k hk
    split at hod
    case h_2 => cases hod
    rename_i d hd
    cases hod
    obtain ⟨y, hy, iy⟩ := iv.get' hd
    obtain ⟨e1, e2, e3⟩ := lst_upd hv (iv.erase k)
    exact ⟨a, vs, i, k, y, rfl, rfl, hv, hi.1, hi.2, by rw [iv.len]; exact hk, hy, q _ _ e1 e2 e3 (Imm.ext e1 _ _ iy)⟩⟩
def mClear (ls ds : List D) : Option (D × List D) := match ds with
  | [] => some (.non, [])
  | _ => none
theorem m_clear (A : At g X) : MtR X "list.clear" rClear ∧ MlR X rClear mClear := ⟨mt_clear, fun a vs xs H Q ls ds ls' z hv iv im hod q => by
  match ds, hod with
  | [], hod =>
    cases (show _ = _ from im)
    cases hod
    obtain ⟨e1, e2, e3⟩ := lst_upd (K := X.K) (ys := []) (es := []) hv rfl
    exact ⟨a, vs, rfl, rfl, hv, q _ _ e1 e2 e3 rfl⟩⟩
def mReverse (ls ds : List D) : Option (D × List D) := match ds with
  | [] => some (.non, ls.reverse)
  | _ => none
theorem m_reverse (A : At g X) : MtR X "list.reverse" rReverse ∧ MlR X rReverse mReverse := ⟨mt_reverse, fun a vs xs H Q ls ds ls' z hv iv im hod q => by
  match ds, hod with
  | [], hod =>
    cases (show _ = _ from im)
    cases hod
    obtain ⟨e1, e2, e3⟩ := lst_upd hv iv.reverse
    exact ⟨a, vs, rfl, rfl, hv, q _ _ e1 e2 e3 rfl⟩⟩
theorem PSet.or {X : Cx} {t t' : TSet} (h : PSet X t) (h' : PSet X t') : PSet X (fun o i v H Q => t o i v H Q ∨ t' o i v H Q) := by
  intro pins s σ H o i v ov iv u Q I ro ri rv q
  rcases q with q | q
  · exact h pins s σ H o i v ov iv u Q I ro ri rv q
  · exact h' pins s σ H o i v ov iv u Q I ro ri rv q
/-! ### o[i] = v -/
def dSet (d : D) (k : D) (v : D) : Option D := match d, k with
  | .lst ls, .int i => (ixN ls.length i).map fun j => .lst (ls.set j v)
  | .dic t kvs, k => (kOf t k).bind fun kk => if kvs.length < 16777216 then some (.dic t (gPut t kvs kk k v)) else none
  | _, _ => none
def gSb (i : Nat) (fi : Ex) : Gx := fun v ρ => match ownD ρ i, fi ρ with
  | some _, .ok (s, ρ1) => (match PL.pk ρ1 s, ownD ρ1 i with
    | .ok k, some d => (dSet d k v).map fun d' => putO ρ1 i d'
    | _, _ => none)
  | _, _ => none
theorem g_sub {x : Str} {p : Pos} {i : Nat} {fi : Ex} (hi : EOk g ie fi) (hN : g.N[i]? = some x := by rfl) (hv : Vis g.sc x := by first | exact Or.inl rfl | exact Or.inr (Or.inl rfl) | exact Or.inr (Or.inr rfl)) (hd : (x == ("__debug__" : Str)) = false := by decide) (hcd : (x == ("__classdict__" : Str)) = false := by decide)
    (ha : ∀ env v, assign (.Subscript (.Name x p) ie pos) env v = (do
      let ov ← holding [v] (eval (.Name x p) env)
      let iv ← holding [v, ov] (eval ie env)
      standAt pos
      holding [v, ov, iv] (setItem ov iv v)
      release [v, ov, iv] []) := by intro _ _; rfl) : GOk g (.Subscript (.Name x p) ie pos) [] (gSb i fi) := fun X A => by
  refine PG.imp (pg_sub (pe_var (i := i) (by rw [A.N]; exact hN) (by unfold Vis; rw [A.sc]; exact hv) hd hcd) (hi.n A takes0) (PSet.or set_list (set_dict (by have := A.room.un; omega))) (ha _)) fun v σ H Q ⟨ρ, d, R, im, q⟩ => ?_
  unfold gSb at q
  split at q
  case h_2 => exact q.elim
  rename_i d0 s ρ1 ho hf
  obtain ⟨a, ha1, o⟩ := R.own i _ (ownD_is ho)
  refine ⟨_, ha1, ρ, R, ?_⟩
  rw [hf]
  intro H1 E1 R1 y n1
  split at q
  case h_2 => exact q.elim
  rename_i k dd hk ho1
  have hi1 := ownD_is ho1
  obtain ⟨a', ha2, o'⟩ := R1.own i _ hi1
  rw [ha1] at ha2
  cases ha2
  cases hs : dSet dd k d with
  | none => rw [hs] at q; exact q.elim
  | some d' =>
    rw [hs] at q
    unfold dSet at hs
    split at hs
    case h_3 => cases hs
    case h_2 t kvs =>
      cases hk2 : kOf t k with
      | none => rw [hk2] at hs; cases hs
      | some kk =>
        rw [hk2, Option.bind_some] at hs
        split at hs
        case isFalse => cases hs
        case isTrue hl =>
          cases hs
          obtain ⟨H', e0, e1, e2, e3⟩ := dput_of o' (pk_rd n1 R1 (Ext.refl _) hk) hk2 (Imm.ext E1 _ _ im) hl
          exact .inr ⟨a, H', rfl, e0, q σ _ (Chs.refl _ _) (E1.trans e1) (R1.put hi1 ha1 e2 e1 e3)⟩
    rename_i ls j
    obtain ⟨vs, hv1, iv⟩ := o'
    cases hj : ixN ls.length j with
    | none => rw [hj] at hs; cases hs
    | some jj =>
      rw [hj] at hs
      cases hs
      have hy := (pk_rd n1 R1 (Ext.refl _) hk).int
      obtain ⟨e1, e2, e3⟩ := lst_upd hv1 (iv.set jj (Imm.ext E1 _ _ im))
      exact .inl ⟨a, vs, j, jj, rfl, hy, hv1, by rw [iv.len]; exact hj, q σ _ (Chs.refl _ _) (E1.trans e1) (R1.put hi1 ha1 e2 e1 e3)⟩
/-! ### x op= e -/
def IpB (X : Cx) (op : Operator) (od : D → D → Option S) : Prop :=
  ∃ r : TIp, PIp X op r ∧ ∀ (x y : V) (H : Hp) (Q : VK) (d1 d2 : D) (s : S), Imm X.K H d1 x → Rd X.K H d2 y → od d1 d2 = some s → (∀ z H', Same H H' → RS X.K H H' s z → Q z H') → r x y H Q
def valD (ρ : Rho) (i : Nat) : Option D := match ρ[i]? with
  | some (some (.v d)) => some d
  | _ => none
theorem valD_is {ρ : Rho} {i : Nat} {d : D} (h : valD ρ i = some d) : ρ[i]? = some (some (.v d)) := by
  unfold valD at h
  split at h
  · rename_i d' h'; cases h; exact h'
  · cases h
def sAug (l : List Nat) (i : Nat) (od : D → D → Option S) (f : Ex) : Sx := fun ρ => liftO (valD ρ i) >>= fun d1 => f ρ >>= fun p => PL.pk p.2 p.1 >>= fun d2 => liftO (od d1 d2) >>= fun s => if i ∈ l then .stuck else .ok (.next (p.2.set i (some s)))
theorem s_aug {i : Nat} {x : Str} {op : Operator} {od : D → D → Option S} {f : Ex} {pos' : Pos} (sl : Slot g x i) (ho : ∀ X, At g X → IpB X op od) (h : EOk g e f) : SOk g (.AugAssign (.Name x pos') op e pos) (sAug g.ios i od f) := fun X W A tk => by
  obtain ⟨r, hr, hh⟩ := ho X A.toAt
  refine PS.imp (ps_aug (i := i) (by rw [A.N]; exact sl.nd) (by rw [A.N]; exact sl.ix) (by unfold L2.Loc; rw [A.sc]; exact sl.loc) (h.n A.toAt tk) hr (by rw [A.sc]; exact sl.fn.imp (A.fn x) id)) fun D σ H ⟨ρ, R, q⟩ => ?_
  obtain ⟨d1, hd1, q1⟩ := q.opt
  obtain ⟨x1, k1, k2⟩ := R.val i d1 (valD_is hd1)
  refine ⟨x1, k1, ρ, R, Ps_step q1 fun p _ q2 H1 E1 R1 y n => ?_⟩
  obtain ⟨d2, h2, q3⟩ := q2.pk
  obtain ⟨s, hs, q4⟩ := q3.opt
  refine hh x1 y H1 _ d1 d2 s (Imm.ext E1 _ _ k2) (pk_rd n R1 (Ext.refl _) h2) hs fun z H2 sm rs => ?_
  split at q4
  · exact q4.elim
  · rename_i hio
    have R2 := R1.same sm
    have b : BR X.K g p.2 σ H2 s z := by
      have sr := rs.sr R1
      cases s with
      | v d => exact sr
      | o d => exact sr
      | b j => exact rs.elim
    exact q4 _ H2 (E1.trans (Ext.of_same sm)) (R2.set b hio)
theorem ipB_of {op : Operator} {r : TIp} (hr : PIp X op r) {od : D → D → Option S} (h : ∀ (x y : V) (H : Hp) (Q : VK) (d1 d2 : D) (s : S), Imm X.K H d1 x → Rd X.K H d2 y → od d1 d2 = some s → (∀ z H', Same H H' → RS X.K H H' s z → Q z H') → r x y H Q) : IpB X op od := ⟨r, hr, h⟩
def iAdd : D → D → Option S
  | .int i, .int j => some (.v (.int (i + j)))
  | .str i, .str j => if i.length + j.length ≤ 16777216 then some (.v (.str (i ++ j))) else none
  | _, _ => none
theorem ip_or {op : Operator} {r r' : TIp} (h : PIp X op r) (h' : PIp X op r') : PIp X op (fun x y H Q => r x y H Q ∨ r' x y H Q) := fun pins s σ H x y v u Q I r1 r2 q => by
  rcases q with q | q
  · exact h pins s σ H x y v u Q I r1 r2 q
  · exact h' pins s σ H x y v u Q I r1 r2 q
theorem i_add (A : At g X) : IpB X .Add iAdd := by
  refine ⟨_, ip_or iop_add iop_add_str, fun x y H Q d1 d2 s r1 r2 h q => ?_⟩
  unfold iAdd at h
  split at h
  · cases h
    cases (show _ = _ from r1)
    cases r2.int
    exact .inl ⟨_, _, rfl, rfl, q _ H (Same.refl H) rfl⟩
  · split at h
    · rename_i hz
      cases h
      cases (show _ = _ from r1)
      cases r2.str
      exact .inr ⟨_, _, rfl, rfl, line_le hz, q _ H (Same.refl H) rfl⟩
    · cases h
  · cases h
def iInt (f : Int → Int → Option Int) : D → D → Option S
  | .int i, .int j => (f i j).map fun k => .v (.int k)
  | _, _ => none
theorem iInt_is {f : Int → Int → Option Int} {d1 d2 : D} {s : S} (h : iInt f d1 d2 = some s) : ∃ i j k, d1 = .int i ∧ d2 = .int j ∧ f i j = some k ∧ s = .v (.int k) := by
  unfold iInt at h
  split at h
  · rename_i i j
    cases hf : f i j with
    | none => rw [hf] at h; cases h
    | some k => rw [hf] at h; cases h; exact ⟨i, j, k, rfl, rfl, hf, rfl⟩
  · cases h
def iSub := iInt fun i j => some (i - j)
theorem i_sub (A : At g X) : IpB X .Sub iSub := by
  refine ⟨_, iop_sub, fun x y H Q d1 d2 s r1 r2 h q => ?_⟩
  obtain ⟨i, j, k, rfl, rfl, hf, rfl⟩ := iInt_is h
  cases hf
  cases (show _ = _ from r1)
  cases r2.int
  exact ⟨_, _, rfl, rfl, q _ H (Same.refl H) rfl⟩
end
end PL

/-! enumerate of anything that begins (Begins) -/
namespace PL
open PySem PySem.Spec PyProof.Rows L2
theorem enumNew {v : Value} {o : Obj} {H : Heap → Prop} (B : PySem.Begins v o H) :
    Meets (Builtin.«enumerate.__new__» ⟨[.type "enumerate", v], []⟩) (fun _ R s => H s.heap ∧
      R (.ok (.ret (.ref (s.heap.push o).objs.size))) { s with heap := (s.heap.push o).push { cls := .type "enumerate", data := .fields #[.none, .bool false, .ref s.heap.objs.size, rawInt 0, .none, .none] } }) :=
  .of_wp fun prog w A R s h => by
    obtain ⟨hp, g, d, tk, os⟩ := s; obtain ⟨h1, h⟩ := h
    have hsub := sub_enumerate
    have q1 : ∀ {A' : Around} {E : Value → Shared → Prop} {Q : Value → Shared → Prop}, Q (.ref hp.objs.size) ⟨hp.push o, g, d, tk, os⟩ → wpAny (model prog w) A' (pyIter v) Q E ⟨hp, g, d, tk, os⟩ :=
      fun q => B.iter prog w _ _ ⟨hp, g, d, tk, os⟩ _ h1 q
    wp_walk using q1
    refine wpAny_stack_any fun st => wpAny_pure ?_
    split
    · rename_i c _ _ _ _ _
      cases (c == Value.type "enumerate")
      · wp_walk using q1
        exact ⟨_, rfl, h⟩
      · wp_walk using q1
        exact ⟨_, rfl, h⟩
    · wp_walk using q1
      exact ⟨_, rfl, h⟩
section
variable {prog : Program} {w : World} {A : Around} {E : Value → Shared → Prop} {s : Shared}
theorem enum_begins1 {v : Value} {o : Obj} {H : Heap → Prop} {Q : Value → Shared → Prop} (B : PySem.Begins v o H) (h1 : H s.heap)
    (h : ∀ h', IsEnum h' (s.heap.objs.size + 1) s.heap.objs.size 0 .none → h'.get? s.heap.objs.size = some o → h'.objs.size = s.heap.objs.size + 2 →
      (∀ b o, s.heap.get? b = some o → h'.get? b = some o) → Q (.ref (s.heap.objs.size + 1)) { s with heap := h' }) :
    wpAny (model prog w) A (call (.type "enumerate") [v]) Q E s := by
  refine callType_new F.called_enumerate (by decide) (F.typeCall_enumerate_1 _) (F.newCall_enumerate_1 _) (fun obj => F.args_object_init_2 obj _) F.entry_enumerate_new
    (enumNew B) ⟨h1, ?_⟩
  have hz : (s.heap.push o).objs.size = s.heap.objs.size + 1 := Heap.size_push ..
  show _ ∧ _
  rw [hz]
  have he : IsEnum ((s.heap.push o).push { cls := .type "enumerate", data := .fields #[.none, .bool false, .ref s.heap.objs.size, rawInt 0, .none, .none] }) (s.heap.objs.size + 1) s.heap.objs.size 0 .none := by
    have := Heap.get?_push_size (s.heap.push o) (o := { cls := .type "enumerate", data := .fields #[.none, .bool false, .ref s.heap.objs.size, rawInt 0, .none, .none] }) rfl
    rw [hz] at this; exact this
  refine ⟨⟨_, he, rfl⟩, h _ he (Heap.get?_push_of_some _ (Heap.get?_push_size _ B.free)) (by rw [Heap.size_push, hz]) fun b o x => Heap.get?_push_of_some _ (Heap.get?_push_of_some _ x)⟩
end
theorem enumEnd {prog : Program} {w : World} {A : Around} {E : Value → Shared → Prop} {s : Shared} {e it t : Addr} {i : Nat} {c : Int} {items : Array Value} {old : Value} {Q : Option Value → Shared → Prop} (hh : A.handled = none)
    (he : IsEnum s.heap e it c old) (hit : s.heap.IsTupleIter it t i) (ht : s.heap.IsTuple t items) (hx : items[i]? = none)
    (hQ : ∀ h', Heap.ExtBut it s.heap h' → Q none { s with heap := h' }) : wpAny (model prog w) A (pyNext (.ref e)) Q E s := by
  have hT : s.TypeIs (.ref e) "enumerate" := ⟨_, he, rfl⟩
  unfold pyNext
  refine wpAny_bind (wpAny_attempt (wpAny_callSpecial?_slot (name := Str.ofString "__next__") hT F.slot_enumerate_next
    (wpAny_call_entry F.slot_enumerate_next hT F.entry_enumerate_next ?_ (F.args_enumerate_next_1 _))))
  show wpAny _ _ (field (.ref e) 2 >>= _) _ _ _
  refine wpAny_bind (wpAny_field he rfl (x := .ref it) rfl ?_)
  refine wpAny_bind (wpAny_nextOf_tuple_end hh hit ht hx fun h' x he' hx' => ?_)
  obtain ⟨o, ho, hc⟩ := hx'
  refine wpAny_bind (wpAny_isInstance (T := "StopIteration") (b := true) ⟨o, ho, hc⟩ isSubtype_stop ?_)
  exact wpAny_pure (hQ _ he')
/-- the tuple at a, each item in a new pair with its place -/
def IteT (K : PySem.W.Frag) (a : Addr) : It :=
  ⟨fun i H => ∃ (xs : List V) (x : V), SqT K H a xs ∧ xs[i]? = some x, fun i H v H' => ∃ T x, v = .ref T ∧ H T = none ∧ H' = upd H T (.tup [.int (i : Nat), x]) ∧ ∀ xs, SqT K H a xs → xs[i]? = some x, fun i H => ∃ xs : List V, SqT K H a xs ∧ xs.length ≤ i⟩
theorem turn_enumT {P : Program} {w : World} {K : PySem.W.Frag} {elts : List Expr} {kk : Nat} {tpos : Pos} (a e it : Addr) (hne : a ≠ it) (hae : a ≠ e) :
    Turn P w K (.Tuple elts kk tpos) (IteT K a) [e, it] e (fun i h => (∃ old, IsEnum h e it ((i : Nat) : Int) old) ∧ h.IsTupleIter it a i ∧ e ≠ it) where
  mem := by simp
  obj := fun i h st b hb => by
    obtain ⟨⟨old, he⟩, ⟨o, ho, hc, hd⟩, _⟩ := st
    have e' : b = e ∨ b = it := by simpa using hb
    rcases e' with z | z
    · rw [z]; exact ⟨_, he, fun v q => nomatch q⟩
    · rw [z]; exact ⟨o, ho, fun v q => by rw [hd] at q; cases q⟩
  keep := fun i h h' st k => let ⟨⟨old, he⟩, hi, hne⟩ := st; ⟨⟨old, k e (by simp) _ he⟩, hi.at fun o q => k it (by simp) o q, hne⟩
  item := by
    intro X hP hw hK hc i pins s σ H E I hf st hg
    subst hP hw hK
    obtain ⟨⟨old, he⟩, hit, hei⟩ := st
    obtain ⟨xs, x, hq, hx⟩ := hg
    obtain ⟨its, rv, p, hz⟩ := I.tuple hq
    obtain ⟨u, hu, ru⟩ := rv.get hx
    have hel : e < s.heap.objs.size := Heap.lt_size he
    have hil : it < s.heap.objs.size := by obtain ⟨_, q, _⟩ := hit; exact Heap.lt_size q
    have hil2 : i < its.toArray.size := by
      rcases Nat.lt_or_ge i its.length with z | z
      · simpa using z
      · rw [List.getElem?_eq_none z] at hu; cases hu
    refine wpAny_pyNext_enum_itemD (Draws.tuple (A := X.A.in1) (show X.A.in1.handled = none from I.ok.hd hc) it a hne its.toArray) he ⟨hit, p⟩ hil2 hei (fun z => by
      rcases List.mem_cons.mp z with z | z
      · exact hei z
      · exact hae (List.mem_singleton.mp z).symm) fun u' h' tk hu' ho hst' hT hsz hk => ?_
    have hu2 : u' = u := by
      have : its.toArray[i]? = some u' := hu'
      rw [List.getElem?_toArray, hu] at this
      exact (Option.some.inj this).symm
    subst hu2
    obtain ⟨hit', _⟩ := hst'
    refine ⟨_, rfl, wpAny_letOwnedTupleGo_enum (s := { s with heap := h', toks := tk + 1 }) ho fun h'' he' sb => ?_⟩
    have hT2 : h''.get? s.heap.objs.size = some { cls := .type "tuple", data := .seq #[.int i tk, u'] } := (sb.2 _ (Nat.ne_of_gt hel)).trans hT
    have new : ObjOk X.prog X.w (upd H s.heap.objs.size (.tup [.int (i : Nat), x])) h'' s.heap.objs.size (.tup [.int (i : Nat), x]) :=
      ⟨by show 2 ≤ sizeLine; decide, [.int i tk, u'], .cons ⟨_, rfl⟩ (.cons ru .nil), ⟨_, hT2, rfl, _, rfl⟩⟩
    have I1 : Inv X pins σ (upd H s.heap.objs.size (.tup [.int (i : Nat), x])) { s with heap := h'', toks := tk + 1 } :=
      I.turnedNew (ch := [e, it]) (fun b ob hb q => (sb.2 b (fun z => hb (by simp [z]))).trans (hk b ob (fun z => hb (by simp [z])) (fun z => hb (by simp [z])) q)) hf (Nat.le_refl _) new
    refine ⟨.ref s.heap.objs.size, _, I1, rfl, ⟨_, x, rfl, I.hok.fresh (Nat.le_refl _), rfl, fun ys hy => by rw [I.tuple_inj hy hq]; exact hx⟩, ⟨⟨u', ?_⟩, hit'.at fun o q => (sb.2 it (Ne.symm hei)).trans q, hei⟩, fun b hb => ?_⟩
    · have e1 : ((i + 1 : Nat) : Int) = (i : Int) + 1 := by omega
      rw [e1]; exact he'
    · have hb' : b < s.heap.objs.size := by
        have e' : b = e ∨ b = it := by simpa using hb
        rcases e' with z | z
        · rw [z]; exact hel
        · rw [z]; exact hil
      rw [upd_ne (Nat.ne_of_lt hb')]
      exact (hf b hb).1
  done := by
    intro X hP hw hK hc i pins s σ H E I hf st hg
    subst hP hw hK
    obtain ⟨⟨old, he⟩, hit, hei⟩ := st
    obtain ⟨xs, hq, hx⟩ := hg
    obtain ⟨its, rv, p, hz⟩ := I.tuple hq
    obtain ⟨f0, f1, f2, f3, f4, f5⟩ := hf it (by simp)
    have hl := rv.length
    have hle : its.toArray[i]? = none := by simp; omega
    refine enumEnd (I.ok.hd hc) he hit p hle fun h' eb => ⟨rfl, I.turned (t' := s.toks) (fun b o hb q => eb b o hb q) f0 f1 f3 f4 f5⟩
  self := fun A i s Q E st h => let ⟨⟨_, he⟩, _⟩ := st; wpAny_pyIter_enum he h
/-- enumerate(x), x a list or a tuple -/
def iEnumA (K : PySem.W.Frag) (ta : TA) : TI := fun σ H R => ta σ H fun vs H1 => ∃ a xs, vs = [.ref a] ∧ ((SqL K H1 a xs ∧ R (Ite K a) H1) ∨ (SqT K H1 a xs ∧ R (IteT K a) H1))
theorem pi_enumA {X : Cx} {e : Expr} {ta : TA} {p pos tpos : Pos} {elts : List Expr} {kk : Nat} (hg : Gl X "enumerate") (hm : X.mg "enumerate" = none) (ha : PA X [e] ta) (hs : starEach [e] X.env = [(false, eval e X.env)] := by rfl) :
    PI X (.Tuple elts kk tpos) (.Call (.Name "enumerate" p) [e] [] pos) (iEnumA X.K ta) := by
  refine ⟨fun pins s σ H R I h => ?_⟩
  refine Call_ (ld_blt I hg hm boot_enumerate (PyProof.Rows.callWith_type1 (thn (ha.run pos pins s σ H _ I h) fun us s1 ⟨vs, H1, I1, r1, q1⟩ => ?_) hs rfl))
  obtain ⟨a, xs, ex, hq⟩ := q1
  subst ex
  cases r1 with
  | cons r rr =>
    cases rr
    cases r
    have fp : ∀ b, b ∈ [s1.heap.objs.size + 1, s1.heap.objs.size] → FpOk X pins H1 b := fun b hb => by
      have e' : b = s1.heap.objs.size + 1 ∨ b = s1.heap.objs.size := by simpa using hb
      have hle : s1.heap.objs.size ≤ b := by
        rcases e' with z | z
        · rw [z]; exact Nat.le_add_right _ _
        · rw [z]; exact Nat.le_refl _
      exact I1.fpOk hle (I1.hok.fresh hle)
    rcases hq with ⟨hq, q⟩ | ⟨hq, q⟩
    · obtain ⟨its, rv, p', hz⟩ := I1.list hq
      refine call_enumerate_list p'.isList fun h' he hit hsz hk => wpAny_pyIter_enum he ?_
      have I2 : Inv X pins σ H1 { s1 with heap := h' } := I1.kept (t' := s1.toks) hk
      exact ⟨s1.heap.objs.size + 1, [s1.heap.objs.size + 1, s1.heap.objs.size], _, _, H1, rfl, I2, turn_enum a (s1.heap.objs.size + 1) s1.heap.objs.size, ⟨⟨.none, he⟩, hit, Nat.succ_ne_self _⟩, fp, q⟩
    · obtain ⟨its, rv, p', hz⟩ := I1.tuple hq
      have hal : a < s1.heap.objs.size := by obtain ⟨_, e1, _⟩ := id p'; exact Heap.lt_size e1
      refine enum_begins1 (begins_tuple a its.toArray) p' fun h' he hit hsz hk => wpAny_pyIter_enum he ?_
      have I2 : Inv X pins σ H1 { s1 with heap := h' } := I1.kept (t' := s1.toks) hk
      exact ⟨s1.heap.objs.size + 1, [s1.heap.objs.size + 1, s1.heap.objs.size], _, _, H1, rfl, I2, turn_enumT a (s1.heap.objs.size + 1) s1.heap.objs.size (Nat.ne_of_lt hal) (Nat.ne_of_lt (Nat.lt_succ_of_lt hal)), ⟨⟨.none, he⟩, ⟨_, hit, rfl, rfl⟩, Nat.succ_ne_self _⟩, fp, q⟩
section
variable {g : Cf} {X : Cx} {e a b c tg : Expr} {es : List Expr} {pos : Pos}
theorem walk_enumT {K : PySem.W.Frag} {a : Addr} {xs : List V} : Walk (IteT K a) xs.length (fun H => SqT K H a xs) (YPair (fun i => some (.int (i : Nat))) (fun i => xs[i]?)) := by
  refine ⟨fun i _ hi q => ⟨xs, xs[i], q, by simp [hi]⟩, fun _ q => ⟨xs, q, Nat.le_refl _⟩, fun i H v H' _ q y => ?_⟩
  obtain ⟨T, x, h1, h2, h3, h4⟩ := y
  exact ⟨T, .int (i : Nat), x, h1, h2, h3, rfl, h4 xs q⟩
def enD : Nat → List D → List D
  | _, [] => []
  | k, d :: ds => .tup [.int (k : Nat), d] :: enD (k + 1) ds
theorem enD_len : ∀ (ds : List D) (k : Nat), (enD k ds).length = ds.length
  | [], _ => rfl
  | d :: ds, k => by rw [enD, List.length_cons, List.length_cons, enD_len ds]
theorem enD_get : ∀ (ds : List D) (k i : Nat), (enD k ds)[i]? = ds[i]?.map fun d => .tup [.int ((k + i : Nat) : Int), d]
  | [], _, _ => by simp [enD]
  | d :: ds, k, 0 => by simp [enD]
  | d :: ds, k, i + 1 => by
    rw [enD, List.getElem?_cons_succ, enD_get ds (k + 1) i, List.getElem?_cons_succ]
    rw [show k + 1 + i = k + (i + 1) by omega]
/-- from a walk of new pairs -/
theorem it_pair {K : PySem.W.Frag} {J : It} {H : Hp} {G : Hp → Prop} {n : Nat} {fx fy : Nat → Option V} {ps : List D} (hn : ps.length = n) (w : Walk J n G (YPair fx fy)) (g : G H) (gs : ∀ H1 H2, Ext H1 H2 → G H1 → G H2)
    (hp : ∀ i H1 x y, i < n → G H1 → fx i = some x → fy i = some y → ∃ d e, ps[i]? = some (.tup [d, e]) ∧ Imm K H1 d x ∧ Imm K H1 e y) : ItOk K J ps H := by
  subst hn
  refine ⟨G, _, w, g, gs, fun i H1 v H2 hi hg hy => ?_⟩
  obtain ⟨T, x, y, rfl, hT, rfl, h1, h2⟩ := hy
  obtain ⟨d, e, h3, h4, h5⟩ := hp i H1 x y hi hg h1 h2
  have sm : Same H1 (upd H1 T (.tup [x, y])) := new_tup (K := K) hT
  exact ⟨sm, _, h3, T, _, rfl, TpT.of upd_same, x, [y], rfl, Imm.ext (Ext.of_same sm) _ _ h4, y, [], rfl, Imm.ext (Ext.of_same sm) _ _ h5, rfl⟩
theorem it_enT {K : PySem.W.Frag} {H : Hp} {ds : List D} {vs : List V} {a : Addr} (h1 : TpT K H a vs) (h2 : ImmL K H ds vs) : ItOk K (IteT K a) (enD 0 ds) H := by
  refine it_pair (by rw [enD_len, ← h2.len]) (walk_enumT.mono (G' := fun H => TpT K H a vs ∧ ImmL K H ds vs) (fun H g => g.1.seq) fun _ _ _ _ _ _ y => y) ⟨h1, h2⟩ (fun H1 H2 e g => ⟨e.sqT g.1, ImmL.ext e _ _ g.2⟩) fun i H1 x y hi g hx hy => ?_
  cases hx
  obtain ⟨d, hd, im⟩ := g.2.get hy
  exact ⟨.int (i : Nat), d, by rw [enD_get, hd, Nat.zero_add]; rfl, rfl, im⟩
theorem it_enL {K : PySem.W.Frag} {H : Hp} {ds : List D} {vs : List V} {a : Addr} (h1 : FzL K H a vs) (h2 : ImmL K H ds vs) : ItOk K (Ite K a) (enD 0 ds) H := by
  refine it_pair (by rw [enD_len, ← h2.len]) (walk_enum.mono (G' := fun H => FzL K H a vs ∧ ImmL K H ds vs) (fun H g => g.1.seq) fun _ _ _ _ _ _ y => y) ⟨h1, h2⟩ (fun H1 H2 e g => ⟨e.fzL g.1, ImmL.ext e _ _ g.2⟩) fun i H1 x y hi g hx hy => ?_
  cases hx
  obtain ⟨d, hd, im⟩ := g.2.get hy
  exact ⟨.int (i : Nat), d, by rw [enD_get, hd, Nat.zero_add]; rfl, rfl, im⟩
theorem it_enS {K : PySem.W.Frag} {H : Hp} {ns : List Int} {a : Addr} (h1 : ScrL K H a (ns.map V.int)) : ItOk K (Ite K a) (enD 0 (ns.map .int)) H := by
  refine it_pair (n := (ns.map V.int).length) (by rw [enD_len, List.length_map, List.length_map]) (walk_enum.mono (G' := fun H => ScrL K H a (ns.map V.int)) (fun H g => g.seq) fun _ _ _ _ _ _ y => y) h1 (fun H1 H2 e g => e.scrL g) fun i H1 x y hi g hx hy => ?_
  cases hx
  obtain ⟨d, hd, im⟩ := (immL_map_int (K := K) (H := H1) ns).get hy
  exact ⟨.int (i : Nat), d, by rw [enD_get, hd, Nat.zero_add]; rfl, rfl, im⟩
def dSeq : D → Option (List D)
  | .tup ds => some ds
  | .lst ds => some ds
  | .scr ns => some (ns.map .int)
  | _ => none
def iEn (l : List Nat) (f : Ex) : Ix := fun ρ => eF l f ρ >>= fun p => liftO (dSeq p.1) >>= fun ds => .ok (enD 0 ds, p.2)
theorem aF_one {l : List Nat} {f : Ex} (ρ : Rho) : aF l (aCons f aNil) ρ = (eF l f ρ >>= fun p => Out.ok ([p.1], p.2)) := by
  unfold aF aCons aNil eF
  cases f ρ with
  | stuck => rfl
  | exc c ρ1 => rfl
  | ok p =>
    obtain ⟨s, ρ1⟩ := p
    show fzL l [s] ρ1 = (fz l s ρ1 >>= fun p => Out.ok ([p.1], p.2))
    simp only [fzL, bind_ok]
theorem i_en {p tpos : Pos} {elts : List Expr} {kk : Nat} {f : Ex} (hm : g.mg "enumerate" = none) (ha : EOk g e f) (hg : Glo g "enumerate" := by rfl) (hs : ∀ env, starEach [e] env = (false, eval e env) :: starEach [] env := by intro _; rfl) :
    IOk g (.Tuple elts kk tpos) (.Call (.Name "enumerate" p) [e] [] pos) (iEn g.ios f) := fun X W A tk => by
  refine PI.imp (pi_enumA (hg.gl A) (by rw [A.mg]; exact hm) ((a_cons ha a_nil hs).f A tk) (hs _)) fun σ H Q ⟨ρ, R, q⟩ => ?_
  have q : Pst X.K g σ H W (fun p H' => ER X.K g p.2 σ H' → ∀ J, ItOk X.K J p.1 H' → Q J H') (aF g.ios (aCons f aNil) ρ >>= fun p => liftO (match p.1 with | [d] => dSeq d | _ => none) >>= fun ds => .ok (enD 0 ds, p.2)) := by
    rw [aF_one]
    unfold iEn at q
    cases hf : eF g.ios f ρ with
    | stuck => rw [hf] at q; exact q.elim
    | exc c ρ1 => rw [hf] at q; exact q
    | ok p => rw [hf] at q; exact q
  refine tAF_step R q fun ds ρ1 xs H1 R1 E1 im q1 => ?_
  obtain ⟨es', hd, q2⟩ := q1.opt
  match ds, hd with
  | [d], hd =>
    obtain ⟨x, rfl, ix⟩ := immL_1 im
    cases d with
    | tup ds =>
      cases hd
      obtain ⟨a, vs, rfl, s1, i1⟩ := ix
      exact ⟨a, vs, rfl, .inr ⟨s1.seq, q2 H1 (Ext.refl _) R1 _ (it_enT s1 i1)⟩⟩
    | lst ds =>
      cases hd
      obtain ⟨a, vs, rfl, s1, i1⟩ := ix
      exact ⟨a, vs, rfl, .inl ⟨s1.seq, q2 H1 (Ext.refl _) R1 _ (it_enL s1 i1)⟩⟩
    | scr ns =>
      cases hd
      obtain ⟨a, rfl, s1⟩ := ix
      exact ⟨a, _, rfl, .inl ⟨s1.seq, q2 H1 (Ext.refl _) R1 _ (it_enS s1)⟩⟩
    | _ => cases hd
/-! ### zip -/
def zpD : List D → List D → List D
  | d :: ds, e :: es => .tup [d, e] :: zpD ds es
  | _, _ => []
theorem zpD_len : ∀ (ds es : List D), (zpD ds es).length = min ds.length es.length
  | [], _ => by simp [zpD]
  | d :: ds, [] => by simp [zpD]
  | d :: ds, e :: es => by simp only [zpD, List.length_cons, zpD_len ds es]; omega
theorem zpD_get : ∀ (ds es : List D) (i : Nat) (d e : D), ds[i]? = some d → es[i]? = some e → (zpD ds es)[i]? = some (.tup [d, e])
  | [], _, _, _, _, h, _ => by simp at h
  | d :: ds, [], _, _, _, _, h => by simp at h
  | d :: ds, e :: es, 0, _, _, h, h' => by simp at h h'; subst h; subst h'; rfl
  | d :: ds, e :: es, i + 1, d', e', h, h' => by
    rw [List.getElem?_cons_succ] at h h'
    rw [zpD, List.getElem?_cons_succ]
    exact zpD_get ds es i d' e' h h'
theorem walk_zipT {K : PySem.W.Frag} {a b : Addr} {xs ys : List V} : Walk (RZ.ItzT K a b) (min xs.length ys.length) (fun H => SqT K H a xs ∧ SqT K H b ys) (YPair (fun i => xs[i]?) (fun i => ys[i]?)) := by
  refine ⟨fun i _ hi q => ?_, fun _ q => ⟨xs, ys, q.1, q.2, by omega⟩, fun i H v H' _ q y => ?_⟩
  · have h1 : i < xs.length := by omega
    have h2 : i < ys.length := by omega
    exact ⟨xs, ys, xs[i], ys[i], q.1, q.2, by simp [h1], by simp [h2]⟩
  · obtain ⟨T, x, z, h1, h2, h3, h4, h5⟩ := y
    exact ⟨T, x, z, h1, h2, h3, h4 xs q.1, h5 ys q.2⟩
/-- what reads as a list: tracked locked, or the script -/
def LsR (K : PySem.W.Frag) (H : Hp) (d : D) (ds : List D) (a : Addr) (vs : List V) : Prop := (d = .lst ds ∧ FzL K H a vs ∧ ImmL K H ds vs) ∨ ∃ ns, d = .scr ns ∧ ds = ns.map .int ∧ vs = ns.map V.int ∧ ScrL K H a vs
theorem LsR.seq {K : PySem.W.Frag} {H : Hp} {d : D} {ds : List D} {a : Addr} {vs : List V} (h : LsR K H d ds a vs) : SqL K H a vs := by
  rcases h with ⟨_, h, _⟩ | ⟨ns, _, _, _, h⟩
  · exact h.seq
  · exact h.seq
theorem LsR.imm {K : PySem.W.Frag} {H : Hp} {d : D} {ds : List D} {a : Addr} {vs : List V} (h : LsR K H d ds a vs) : ImmL K H ds vs := by
  rcases h with ⟨_, _, h⟩ | ⟨ns, _, rfl, rfl, _⟩
  · exact h
  · exact immL_map_int ns
theorem LsR.ext {K : PySem.W.Frag} {H H' : Hp} (e : Ext H H') {d : D} {ds : List D} {a : Addr} {vs : List V} (h : LsR K H d ds a vs) : LsR K H' d ds a vs := by
  rcases h with ⟨h1, h2, h3⟩ | ⟨ns, h1, h2, h3, h4⟩
  · exact .inl ⟨h1, e.fzL h2, ImmL.ext e _ _ h3⟩
  · exact .inr ⟨ns, h1, h2, h3, e.scrL h4⟩
theorem ls_of {K : PySem.W.Frag} {H : Hp} {d : D} {ds : List D} {x : V} (h : Imm K H d x) (hd : dSeq d = some ds) (ht : ∀ es, d ≠ .tup es) : ∃ a vs, x = .ref a ∧ LsR K H d ds a vs := by
  cases d with
  | lst es => cases hd; obtain ⟨a, vs, rfl, h1, h2⟩ := h; exact ⟨a, vs, rfl, .inl ⟨rfl, h1, h2⟩⟩
  | scr ns => cases hd; obtain ⟨a, rfl, h1⟩ := h; exact ⟨a, _, rfl, .inr ⟨ns, rfl, rfl, rfl, h1⟩⟩
  | tup es => exact absurd rfl (ht es)
  | _ => cases hd
def isTupD : D → Bool
  | .tup _ => true
  | _ => false
def zip2 : List D → Option (List D)
  | [d, e] => if isTupD d = isTupD e then (dSeq d).bind fun ds => (dSeq e).map fun es => zpD ds es else none
  | _ => none
def iZp (l : List Nat) (fa : Ax) : Ix := fun ρ => aF l fa ρ >>= fun p => liftO (zip2 p.1) >>= fun ds => .ok (ds, p.2)
theorem it_zp {K : PySem.W.Frag} {H : Hp} {J : It} {ds es : List D} {xs ys : List V} {G : Hp → Prop} (w : Walk J (min xs.length ys.length) G (YPair (fun i => xs[i]?) (fun i => ys[i]?))) (g : G H) (gs : ∀ H1 H2, Ext H1 H2 → G H1 → G H2) (h1 : ∀ H, G H → ImmL K H ds xs) (h2 : ∀ H, G H → ImmL K H es ys) : ItOk K J (zpD ds es) H := by
  refine it_pair (by rw [zpD_len, (h1 H g).len, (h2 H g).len]) w g gs fun i H1 x y hi g1 hx hy => ?_
  obtain ⟨d, hd, i1⟩ := (h1 H1 g1).get hx
  obtain ⟨e, he, i2⟩ := (h2 H1 g1).get hy
  exact ⟨d, e, zpD_get ds es i d e hd he, i1, i2⟩
theorem i_zp {p tpos : Pos} {elts : List Expr} {kk : Nat} {fa : Ax} (hm : g.mg "zip" = none) (ha : AOk g [a, b] fa) (hg : Glo g "zip" := by rfl) (hs : ∀ env, starEach [a, b] env = (false, eval a env) :: starEach [b] env := by intro _; rfl) (hpl : ∀ env, (backTo pos (starEach [b] env)).any (·.1) = false := by intro _; rfl) :
    IOk g (.Tuple elts kk tpos) (.Call (.Name "zip" p) [a, b] [] pos) (iZp g.ios fa) := fun X W A tk => by
  refine PI.imp (RZ.pi_zipA (hg.gl A) (by rw [A.mg]; exact hm) (ha.f A tk) (hs _) (hpl _)) fun σ H Q ⟨ρ, R, q⟩ => ?_
  refine tAF_step R q fun ds ρ1 xs H1 R1 E1 im q1 => ?_
  obtain ⟨ps, hd, q2⟩ := q1.opt
  match ds, hd with
  | [d, e], hd =>
    obtain ⟨x, y, rfl, ix, iy⟩ := immL_2 im
    simp only [zip2] at hd
    split at hd
    case isFalse => cases hd
    rename_i ht
    cases h1 : dSeq d with
    | none => rw [h1] at hd; cases hd
    | some ds =>
      cases h2 : dSeq e with
      | none => rw [h1, h2] at hd; cases hd
      | some es =>
        rw [h1, h2] at hd
        cases hd
        by_cases hT : isTupD d = true
        · have hT' := ht.symm.trans hT
          cases d <;> cases hT
          cases e <;> cases hT'
          cases h1
          cases h2
          obtain ⟨a1, v1, rfl, s1, i1⟩ := ix
          obtain ⟨a2, v2, rfl, s2, i2⟩ := iy
          exact ⟨a1, a2, v1, v2, rfl, .inr ⟨s1.seq, s2.seq, q2 H1 (Ext.refl _) R1 _ (it_zp (walk_zipT.mono (G' := fun H => (TpT X.K H a1 v1 ∧ ImmL X.K H ds v1) ∧ TpT X.K H a2 v2 ∧ ImmL X.K H es v2) (fun H g => ⟨g.1.1.seq, g.2.1.seq⟩) fun _ _ _ _ _ _ y => y) ⟨⟨s1, i1⟩, s2, i2⟩ (fun _ _ e g => ⟨⟨e.sqT g.1.1, ImmL.ext e _ _ g.1.2⟩, e.sqT g.2.1, ImmL.ext e _ _ g.2.2⟩) (fun _ g => g.1.2) fun _ g => g.2.2)⟩⟩
        · have hT' : ¬ isTupD e = true := fun z => hT (ht.trans z)
          obtain ⟨a1, v1, rfl, s1⟩ := ls_of ix h1 fun es z => hT (by rw [z]; rfl)
          obtain ⟨a2, v2, rfl, s2⟩ := ls_of iy h2 fun es z => hT' (by rw [z]; rfl)
          exact ⟨a1, a2, v1, v2, rfl, .inl ⟨s1.seq, s2.seq, q2 H1 (Ext.refl _) R1 _ (it_zp ((walk_zip rfl).mono (G' := fun H => LsR X.K H d ds a1 v1 ∧ LsR X.K H e es a2 v2) (fun H g => ⟨g.1.seq, g.2.seq⟩) fun _ _ _ _ _ _ y => y) ⟨s1, s2⟩ (fun _ _ e g => ⟨g.1.ext e, g.2.ext e⟩) (fun _ g => g.1.imm) fun _ g => g.2.imm)⟩⟩
end
end PL

/-! defs with one in-out parameter: an own object of the caller that the def may change -/
namespace PL
open PySem PySem.Spec PyProof.Rows L2
theorem ER.putW {K : PySem.W.Frag} {g : Cf} {ρ : Rho} {σ : L2.St} {H H' : Hp} {i : Nat} {d d' : D} {a : Addr} (R : ER K g ρ σ H) (hi : ρ[i]? = some (some (.o d))) (ha : σ[i]? = some (some (.ref a))) (e : ∀ b o, b ≠ a → H b = some o → H' b = some o) (x : Ext H H') (o : OwnAt K H' a d') : ER K g (putO ρ i d') σ H' := by
  have hlt : i < ρ.length := by
    rcases Nat.lt_or_ge i ρ.length with z | z
    · exact z
    · rw [List.getElem?_eq_none z] at hi; cases hi
  have gρ : ∀ j, (putO ρ i d')[j]? = if j = i then some (some (.o d')) else ρ[j]? := fun j => by
    unfold putO
    by_cases hj : j = i
    · subst hj; rw [if_pos rfl, List.getElem?_set_self hlt]
    · rw [if_neg hj, List.getElem?_set_ne (Ne.symm hj)]
  have un : ∀ {j : Nat} {dj : D}, (putO ρ i d')[j]? = some (some (S.o dj)) → ∃ dk : D, ρ[j]? = some (some (S.o dk)) := fun {j dj} h => by
    rw [gρ] at h
    by_cases hj : j = i
    · subst hj; exact ⟨d, hi⟩
    · rw [if_neg hj] at h; exact ⟨_, h⟩
  refine ⟨by unfold putO; rw [List.length_set]; exact R.len, fun j dj h => ?_, fun j dj h => ?_, fun j m h => ?_, fun j m dj dm b h1 h2 h3 h4 => ?_, fun b ob h q => ?_, fun j dj b h1 h2 => ?_, fun p hp => ?_⟩
  · rw [gρ] at h
    by_cases hj : j = i
    · rw [if_pos hj] at h; cases h
    · rw [if_neg hj] at h
      obtain ⟨y, h1, h2⟩ := R.val j dj h
      exact ⟨y, h1, Imm.ext x _ _ h2⟩
  · rw [gρ] at h
    by_cases hj : j = i
    · rw [if_pos hj] at h; cases h; subst hj; exact ⟨a, ha, o⟩
    · rw [if_neg hj] at h
      obtain ⟨b, h1, h2⟩ := R.own j dj h
      have hb : b ≠ a := fun z => hj (R.sep j i dj d a h hi (z ▸ h1) ha)
      obtain ⟨u, hu, _⟩ := h2.some
      exact ⟨b, h1, h2.ext x ((e b u hb hu).trans hu.symm)⟩
  · rw [gρ] at h
    by_cases hj : j = i
    · rw [if_pos hj] at h; cases h
    · rw [if_neg hj] at h; exact R.bor j m h
  · obtain ⟨k1, h1'⟩ := un h1
    obtain ⟨k2, h2'⟩ := un h2
    exact R.sep j m k1 k2 b h1' h2' h3 h4
  · have hb : b ≠ a := fun z => by
      subst z
      rcases R.new i d b hi ha with h0 | h0
      · rw [h0] at h; cases h
      · exact q _ h0 rfl
    exact e b ob hb (R.old b ob h q)
  · obtain ⟨k1, h1'⟩ := un h1
    exact R.new j k1 b h1' h2
  · obtain ⟨h1, dj, h2⟩ := R.io p hp
    refine ⟨h1, ?_⟩
    rw [gρ]
    by_cases hj : p.1 = i
    · rw [if_pos hj]; exact ⟨_, rfl⟩
    · rw [if_neg hj]; exact ⟨_, h2⟩
/-- what a def with an in-out parameter computes: its result, the parameter behind it -/
abbrev Fn1 := List D → Out (S × D)
def sp1 (K : PySem.W.Frag) (n j0 : Nat) (F : Fn1) : Sp := fun vs H Q E => ∃ (ds : List D) (a : Addr) (d : D), ds.length = n ∧ vs.length = n ∧ ds[j0]? = some d ∧ vs[j0]? = some (.ref a) ∧ OwnAt K H a d ∧
  (∀ k d', k ≠ j0 → ds[k]? = some d' → ∃ x, vs[k]? = some x ∧ Imm K H d' x) ∧ (match F ds with
  | .ok (s, d2) => ∀ H' x, Ext H H' → (∀ b o, b ≠ a → H b = some o → H' b = some o) → OwnAt K H' a d2 → RS K H H' s x → Q x H'
  | _ => False)
def rho1 : Nat → List D → Rho
  | _, [] => []
  | 0, d :: ds => some (.o d) :: ds.map fun d => some (.v d)
  | j + 1, d :: ds => some (.v d) :: rho1 j ds
def end1 (j0 : Nat) : Fl → Out (S × D)
  | .ret s ρ' => liftO (ownD ρ' j0) >>= fun d => .ok (s, d)
  | .next ρ' => liftO (ownD ρ' j0) >>= fun d => .ok (.v .non, d)
  | _ => .stuck
theorem end1_r (j0 : Nat) (s : S) (ρ' : Rho) : end1 j0 (.ret s ρ') = (liftO (ownD ρ' j0) >>= fun d => .ok (s, d)) := rfl
theorem end1_n (j0 : Nat) (ρ' : Rho) : end1 j0 (.next ρ') = (liftO (ownD ρ' j0) >>= fun d => .ok (.v .non, d)) := rfl
def run1 (j0 m : Nat) (f : Sx) : Fn1 := fun ds => f (rho1 j0 ds ++ List.replicate m none) >>= end1 j0
theorem rho1_len : ∀ (j : Nat) (ds : List D), (rho1 j ds).length = ds.length
  | _, [] => by simp [rho1]
  | 0, d :: ds => by simp [rho1]
  | j + 1, d :: ds => by simp [rho1, rho1_len j ds]
theorem rho1_get : ∀ (j : Nat) (ds : List D) (i : Nat), (rho1 j ds)[i]? = ds[i]?.map fun d => some (if i = j then .o d else .v d)
  | _, [], i => by simp [rho1]
  | 0, d :: ds, 0 => by simp [rho1]
  | 0, d :: ds, i + 1 => by simp [rho1]
  | j + 1, d :: ds, 0 => by simp [rho1]
  | j + 1, d :: ds, i + 1 => by
    rw [rho1, List.getElem?_cons_succ, List.getElem?_cons_succ, rho1_get j ds i]
    by_cases h : i = j <;> simp [h]
theorem rho1_some {j m i : Nat} {ds : List D} {s : S} (h : (rho1 j ds ++ List.replicate m none)[i]? = some (some s)) : ∃ d, ds[i]? = some d ∧ s = if i = j then .o d else .v d := by
  rcases Nat.lt_or_ge i (rho1 j ds).length with hi | hi
  · rw [List.getElem?_append_left hi, rho1_get] at h
    cases hd : ds[i]? with
    | none => rw [hd] at h; cases h
    | some d => rw [hd] at h; cases h; exact ⟨d, rfl, rfl⟩
  · rw [List.getElem?_append_right hi, List.getElem?_replicate] at h
    split at h <;> cases h
theorem start_get {N : List Str} {vs : List V} {i : Nat} {x : V} (h : vs[i]? = some x) : (L2.start N vs)[i]? = some (some x) := by
  have hi : i < vs.length := by
    rcases Nat.lt_or_ge i vs.length with z | z
    · exact z
    · rw [List.getElem?_eq_none z] at h; cases h
  unfold L2.start
  rw [List.getElem?_append_left (by simpa using hi), List.getElem?_map, h]
  rfl
theorem fn1_ok {P : Program} {w : World} {K : PySem.W.Frag} {mg : Str → Option Value} {base : Heap} {x qual : Str} {st : Stmt} {fa : Addr} {fd : FuncData} {N ps : List Str} {k n m j0 : Nat} {f : Sx} (F : L2.Fun K x qual st fa fd) (S : FnScope N ps (defScope st)) (hn : ps.length = n) (hm : N.length = n + m)
    (hb : ∀ H0 a, SsOk ⟨P, w, K, mg, base, N, defScope st, fun _ => true, k, H0, [(j0, a)]⟩ (defBody st) f) : FnOk P w K mg base (L2.CX P w) (k + 1) fa fd ps (sp1 K n j0 (run1 j0 m f)) := by
  refine F.okX S (fun vs H Q E ⟨ds, a, d, h1, h2, _⟩ => by rw [h2, hn]) (fun cdv A outer s H vs Q E hr ⟨ds, a, d, h1, h2, hd, hv, ho, hi, h3⟩ => ?_)
  have AA : AtS ⟨P, w, K, mg, base, N, defScope st, fun _ => true, k, H, [(j0, a)]⟩ (cxOf (L2.CX P w) P w K mg base N qual (defScope st) fa cdv A outer s H E) :=
    { prog := rfl, w := rfl, K := rfl, mg := rfl, base := rfl, N := rfl, sc := rfl, fn := fun _ _ => rfl, room := hr, calm := rfl, own := passes_of rfl, stk := rfl, fr := rfl }
  have R0 : ER K ⟨P, w, K, mg, base, N, defScope st, fun _ => true, k, H, [(j0, a)]⟩ (rho1 j0 ds ++ List.replicate m none) (L2.start N vs) H := by
    refine ⟨?_, fun i d' e => ?_, fun i d' e => ?_, fun i j e => ?_, fun i j d1 d2 b e1 e2 e3 e4 => ?_, fun b o h _ => h, fun i d' b e1 e2 => ?_, fun p hp => ?_⟩
    · simp only [L2.start, List.length_append, List.length_map, List.length_replicate, rho1_len, h1, h2, hm]; omega
    · obtain ⟨d1, h4, h5⟩ := rho1_some e
      by_cases hij : i = j0
      · rw [if_pos hij] at h5; cases h5
      · rw [if_neg hij] at h5; cases h5
        obtain ⟨y, h6, h7⟩ := hi i _ hij h4
        exact ⟨y, start_get h6, h7⟩
    · obtain ⟨d1, h4, h5⟩ := rho1_some e
      by_cases hij : i = j0
      · rw [if_pos hij] at h5; cases h5
        subst hij
        rw [hd] at h4; cases h4
        exact ⟨a, start_get hv, ho⟩
      · rw [if_neg hij] at h5; cases h5
    · obtain ⟨d1, h4, h5⟩ := rho1_some e
      split at h5 <;> cases h5
    · obtain ⟨_, _, h5⟩ := rho1_some e1
      obtain ⟨_, _, h6⟩ := rho1_some e2
      by_cases hi1 : i = j0
      · by_cases hj1 : j = j0
        · rw [hi1, hj1]
        · rw [if_neg hj1] at h6; cases h6
      · rw [if_neg hi1] at h5; cases h5
    · obtain ⟨_, _, h5⟩ := rho1_some e1
      by_cases hi1 : i = j0
      · subst hi1
        rw [start_get hv] at e2
        cases e2
        exact .inr (List.mem_singleton_self _)
      · rw [if_neg hi1] at h5; cases h5
    · cases List.mem_singleton.mp hp
      refine ⟨start_get hv, d, ?_⟩
      rw [List.getElem?_append_left (by rw [rho1_len]; exact (List.getElem?_eq_some_iff.mp hd).1), rho1_get, hd]
      simp
  refine ⟨_, hb H a _ (fun cls d _ H' => E cls d H') AA (takes_of rfl rfl rfl rfl), ⟨_, R0, ?_⟩⟩
  have same : ∀ {ρ' : Rho} {σ' : L2.St} {H' : Hp}, ER K ⟨P, w, K, mg, base, N, defScope st, fun _ => true, k, H, [(j0, a)]⟩ ρ' σ' H' → (∀ b o, b ≠ a → H b = some o → H' b = some o) := fun {ρ' σ' H'} R b o hb e => R.old b o e (fun p hp => by cases List.mem_singleton.mp hp; exact Ne.symm hb)
  have own : ∀ {ρ' : Rho} {σ' : L2.St} {H' : Hp} {d2 : D}, ER K ⟨P, w, K, mg, base, N, defScope st, fun _ => true, k, H, [(j0, a)]⟩ ρ' σ' H' → ownD ρ' j0 = some d2 → OwnAt K H' a d2 := fun {ρ' σ' H' d2} R h => by
    obtain ⟨b, h4, h5⟩ := R.own j0 d2 (ownD_is h)
    obtain ⟨h6, _⟩ := R.io (j0, a) (List.mem_singleton_self _)
    rw [h6] at h4; cases h4
    exact h5
  unfold run1 at h3
  cases hf : f (rho1 j0 ds ++ List.replicate m none) with
  | stuck => rw [hf] at h3; exact h3.elim
  | exc c ρ1 => rw [hf] at h3; exact h3.elim
  | ok r =>
    rw [hf] at h3
    cases r with
    | next ρ' =>
      rw [bind_ok, end1_n] at h3
      cases hw : ownD ρ' j0 with
      | none => rw [hw] at h3; exact h3.elim
      | some d2 => rw [hw] at h3; exact fun σ' H' e' R => h3 H' .non e' (same R) (own R hw) rfl
    | ret z ρ' =>
      rw [bind_ok, end1_r] at h3
      cases hw : ownD ρ' j0 with
      | none => rw [hw] at h3; exact h3.elim
      | some d2 => rw [hw] at h3; exact fun σ' H' y e' R b => h3 H' y e' (same R) (own R hw) (br_rs rfl b)
    | brk ρ' => exact h3.elim
    | cnt ρ' => exact h3.elim
/-- arguments, the j-th one by its slot -/
def fzX (l : List Nat) : Nat → List S → Rho → Out (List D × Nat × Rho)
  | _, [], _ => .stuck
  | 0, .b i :: ss, ρ => fzL l ss ρ >>= fun q => .ok (.non :: q.1, i, q.2)
  | 0, _ :: _, _ => .stuck
  | j + 1, s :: ss, ρ => fz l s ρ >>= fun p => fzX l j ss p.2 >>= fun q => .ok (p.1 :: q.1, q.2.1, q.2.2)
theorem fzX_s (l : List Nat) (j : Nat) (s : S) (ss : List S) (ρ : Rho) : fzX l (j + 1) (s :: ss) ρ = (fz l s ρ >>= fun p => fzX l j ss p.2 >>= fun q => .ok (p.1 :: q.1, q.2.1, q.2.2)) := by cases s <;> rfl
theorem fzX_ok {X : Cx} {g : Cf} {pins : List (Addr × Obj)} {σ : L2.St} {s : Shared} : ∀ {j : Nat} {zs : List S} {xs : List V} {H : Hp} {ρ ρ' : Rho} {ds : List D} {i : Nat}, Inv X pins σ H s → ER X.K g ρ σ H → NRL X.K σ H zs xs → fzX g.ios j zs ρ = .ok (ds, i, ρ') →
    ∃ H', Inv X pins σ H' s ∧ ER X.K g ρ' σ H' ∧ Ext H H' ∧ (∃ x, xs[j]? = some x ∧ σ[i]? = some (some x)) ∧ xs.length = ds.length ∧ j < ds.length ∧ ∀ k d, k ≠ j → ds[k]? = some d → ∃ x, xs[k]? = some x ∧ Imm X.K H' d x
  | j, [], xs, H, ρ, ρ', ds, i, I, R, n, h => by cases j <;> cases h
  | 0, z :: zs, xs, H, ρ, ρ', ds, i, I, R, ⟨y, r, h1, h2, h3⟩, h => by
    subst h1
    cases z with
    | v d => cases h
    | o d => cases h
    | b i' =>
      unfold fzX at h
      obtain ⟨q, hq, h⟩ := bind_is h
      cases h
      obtain ⟨H1, I1, R1, E1, im⟩ := fzL_ok I R h3 (ds := q.1) (ρ' := q.2) hq
      refine ⟨H1, I1, R1, E1, ⟨y, rfl, h2⟩, by rw [List.length_cons, List.length_cons, im.len], by simp, fun k d hk hd => ?_⟩
      cases k with
      | zero => exact absurd rfl hk
      | succ k =>
        rw [List.getElem?_cons_succ] at hd ⊢
        exact im.get' hd
  | j + 1, z :: zs, xs, H, ρ, ρ', ds, i, I, R, ⟨y, r, h1, h2, h3⟩, h => by
    subst h1
    rw [fzX_s] at h
    obtain ⟨p, hp, h⟩ := bind_is h
    obtain ⟨q, hq, h⟩ := bind_is h
    cases h
    obtain ⟨H1, I1, R1, E1, im⟩ := fz_ok I R h2 (d := p.1) (ρ' := p.2) hp
    obtain ⟨H2, I2, R2, E2, ⟨x, hx1, hx2⟩, hl, hj, hk⟩ := fzX_ok I1 R1 (NRL.ext E1 h3) (ds := q.1) (i := q.2.1) (ρ' := q.2.2) hq
    refine ⟨H2, I2, R2, E1.trans E2, ⟨x, by simpa using hx1, hx2⟩, by rw [List.length_cons, List.length_cons, hl], by rw [List.length_cons]; omega, fun k d hkj hd => ?_⟩
    cases k with
    | zero =>
      rw [List.getElem?_cons_zero] at hd
      cases hd
      exact ⟨y, rfl, Imm.ext E2 _ _ im⟩
    | succ k =>
      rw [List.getElem?_cons_succ] at hd ⊢
      exact hk k d (fun z => hkj (by rw [z])) hd
theorem fzX_noexc {l : List Nat} : ∀ {j : Nat} {ss : List S} {ρ ρ' : Rho} {c : Str}, fzX l j ss ρ = .exc c ρ' → False
  | j, [], _, _, _, h => by cases j <;> cases h
  | 0, z :: ss, ρ, ρ', c, h => by
    cases z with
    | v d => cases h
    | o d => cases h
    | b i =>
      unfold fzX at h
      cases hs : fzL l ss ρ with
      | stuck => rw [hs] at h; cases h
      | exc c ρ' => exact fzL_noexc hs
      | ok p => rw [hs] at h; cases h
  | j + 1, z :: ss, ρ, ρ', c, h => by
    rw [fzX_s] at h
    cases hs : fz l z ρ with
    | stuck => rw [hs] at h; cases h
    | exc c ρ' => exact fz_noexc hs
    | ok p =>
      rw [hs, bind_ok] at h
      cases hr : fzX l j ss p.2 with
      | stuck => rw [hr] at h; cases h
      | exc c ρ' => exact fzX_noexc hr
      | ok q => rw [hr] at h; cases h
structure Cal1 (g : Cf) (x : Str) (n j0 : Nat) (F : Fn1) : Prop where
  ex : ∃ (f : Addr) (fd : FuncData) (ps : List Str), FnOk g.prog g.w g.K g.mg g.base (L2.CX g.prog g.w) g.k f fd ps (sp1 g.K n j0 F) ∧ g.mg x = some (.ref f) ∧ PySem.W.keepIn g.K (.ref f) = true ∧ Binds g.K fd ps []
def eCall1 (l : List Nat) (n j0 : Nat) (F : Fn1) (fa : Ax) : Ex := fun ρ => fa ρ >>= fun p => fzX l j0 p.1 p.2 >>= fun q => liftO (ownD q.2.2 q.2.1) >>= fun d => if q.1.length = n then F (q.1.set j0 d) >>= fun r => .ok (r.1, putO q.2.2 q.2.1 r.2) else .stuck
section
variable {g : Cf} {X : Cx} {e a b c : Expr} {es : List Expr} {pos : Pos} {K : PySem.W.Frag} {W : WX}
/-- from a wish behind F: F comes to an end, without raising -/
theorem Pst.ok1 {β γ : Type} {σ : L2.St} {H : Hp} {G : β → Hp → Prop} {F : Out γ} {k : γ → Out β} (hn : ∀ c ρ, F = .exc c ρ → False) (q : Pst K g σ H W G (F >>= k)) : ∃ r, F = .ok r ∧ Pst K g σ H W G (k r) := by
  cases hF : F with
  | stuck => rw [hF] at q; exact q.elim
  | exc c ρ => exact (hn c ρ hF).elim
  | ok r => rw [hF] at q; exact ⟨r, rfl, q⟩
def noX : Out (S × D) → Out (S × D)
  | .ok r => .ok r
  | _ => .stuck
theorem e_call1 {x : Str} {p : Pos} {n j0 : Nat} {F : Fn1} {fa : Ax} (hc : Cal1 g x n j0 F) (ha : AOk g (e :: es) fa) (hg : Glo g x := by rfl) (hdb : (x == ("__debug__" : Str)) = false := by decide)
    (he : ∀ env, starEach (e :: es) env = (false, eval e env) :: starEach es env := by intro _; rfl) (hpl : ∀ env, (backTo pos (starEach es env)).any (·.1) = false := by intro _; rfl) : EOk g (.Call (.Name x p) (e :: es) [] pos) (eCall1 g.ios n j0 (fun ds => noX (F ds)) fa) := fun X W A tk => by
  obtain ⟨f, fd, ps, h1, h2, h3, h4⟩ := hc.ex
  have h1' : FnOk X.prog X.w X.K X.mg X.base (L2.CX X.prog X.w) g.k f fd ps (sp1 X.K n j0 F) := by rw [A.prog, A.w, A.K, A.mg, A.base]; exact h1
  -- the arguments, mixed
  let tM : TA := fun σ H Q => ∃ ρ, ER X.K g ρ σ H ∧ Pst X.K g σ H W (fun (q : List D × Nat × Rho) H' => ER X.K g q.2.2 σ H' → ∀ xs, (∃ x, xs[j0]? = some x ∧ σ[q.2.1]? = some (some x)) → xs.length = q.1.length → j0 < q.1.length → (∀ k d, k ≠ j0 → q.1[k]? = some d → ∃ x, xs[k]? = some x ∧ Imm X.K H' d x) → Q xs H') (fa ρ >>= fun p => fzX g.ios j0 p.1 p.2)
  have hM : PA X (e :: es) tM := by
    refine ⟨fun pos pins s σ H Q I ⟨ρ, R, q⟩ => ?_⟩
    cases hfa : fa ρ with
    | stuck => rw [hfa] at q; exact q.elim
    | exc c ρ' =>
      rw [hfa] at q
      exact (ha X W A tk).run pos pins s σ H Q I ⟨ρ, R, by rw [hfa]; exact q⟩
    | ok p =>
      rw [hfa, bind_ok] at q
      refine thn ((ha X W A tk).run pos pins s σ H (fun xs H1 => ER X.K g p.2 σ H1 ∧ Ext H H1 ∧ NRL X.K σ H1 p.1 xs) I ⟨ρ, R, by rw [hfa]; exact fun H' b a x c => ⟨a, b, c⟩⟩) fun us s1 ⟨xs, H1, I1, r1, R1, e1, nr⟩ => ?_
      cases hz : fzX g.ios j0 p.1 p.2 with
      | stuck => rw [hz] at q; exact q.elim
      | exc c ρ' => exact (fzX_noexc hz).elim
      | ok z =>
        obtain ⟨ds, i, ρ'⟩ := z
        rw [hz] at q
        obtain ⟨H2, I2, R2, E2, hx, hl, hj, hk⟩ := fzX_ok I1 R1 nr hz
        exact ⟨xs, H2, I2, r1, q H2 (e1.trans E2) R2 xs hx hl hj hk⟩
  refine PE.imp (pe_callS h1' A.room (hg.gl A) (by rw [A.mg]; exact h2) (by rw [A.K]; exact h3) (by rw [A.K]; exact h4) (fun σ => passAt tk σ) hM hdb (he _) (hpl _)) fun σ H Q ⟨ρ, R, q⟩ => ⟨ρ, R, ?_⟩
  unfold eCall1 at q
  cases hfa : fa ρ with
  | stuck => rw [hfa] at q; exact q.elim
  | exc c ρ' => rw [hfa] at q; exact q
  | ok p =>
    rw [hfa, bind_ok] at q
    rw [bind_ok]
    cases hz : fzX g.ios j0 p.1 p.2 with
    | stuck => rw [hz] at q; exact q.elim
    | exc c ρ' => exact (fzX_noexc hz).elim
    | ok z =>
      obtain ⟨ds, i, ρ'⟩ := z
      rw [hz, bind_ok] at q
      intro H1 E1 R1 xs ⟨x, hx1, hx2⟩ hl hj hk
      obtain ⟨d, hd, q2⟩ := q.opt
      split at q2
      case isFalse => exact q2.elim
      rename_i hlen
      have hi := ownD_is hd
      obtain ⟨ad, ha1, ho⟩ := R1.own i d hi
      rw [hx2] at ha1
      cases ha1
      refine ⟨ds.set j0 d, ad, d, by rw [List.length_set]; exact hlen, by rw [hl]; exact hlen, List.getElem?_set_self hj, hx1, ho, fun k d' hkj hd' => ?_, ?_⟩
      · rw [List.getElem?_set_ne (Ne.symm hkj)] at hd'
        exact hk k d' hkj hd'
      · cases hF : F (ds.set j0 d) with
        | stuck => simp only [hF, noX] at q2; exact q2.elim
        | exc c ρ2 => simp only [hF, noX] at q2; exact q2.elim
        | ok r =>
          obtain ⟨s, d2⟩ := r
          simp only [hF, noX, bind_ok] at q2
          intro H' y E2 keep o2 rs
          have R2 := R1.putW hi hx2 keep E2 o2
          refine q2 H' (E1.trans E2) R2 y ?_
          cases s with
          | v d' => exact rs
          | o d' =>
            obtain ⟨b, e1, h0, h5⟩ := rs
            refine ⟨b, e1, h5, fun ⟨j, dj, k1, k2⟩ => ?_, not_old R1 h0⟩
            have : ∃ dk : D, ρ'[j]? = some (some (S.o dk)) := by
              unfold putO at k1
              by_cases hj : j = i
              · subst hj; exact ⟨d, hi⟩
              · rw [List.getElem?_set_ne (Ne.symm hj)] at k1; exact ⟨_, k1⟩
            obtain ⟨dk, k3⟩ := this
            exact not_own R1 h0 ⟨j, dk, k3, k2⟩
          | b j => exact rs.elim
end
structure Cal01 (P : Program) (w : World) (K : PySem.W.Frag) (mg : Str → Option Value) (base : Heap) (k : Nat) (x : Str) (n j0 : Nat) (F : Fn1) : Prop where
  ex : ∃ (f : Addr) (fd : FuncData) (ps : List Str), FnOk P w K mg base (L2.CX P w) k f fd ps (sp1 K n j0 F) ∧ mg x = some (.ref f) ∧ PySem.W.keepIn K (.ref f) = true ∧ Binds K fd ps []
theorem Cal01.cal {P : Program} {w : World} {K : PySem.W.Frag} {mg : Str → Option Value} {base : Heap} {j k : Nat} {x : Str} {n j0 : Nat} {F : Fn1} (h : Cal01 P w K mg base j x n j0 F) (hk : j ≤ k) {N : List Str} {sc : Scope} {fn : Str → Bool} {H0 : Hp} {io : List (Nat × Addr)} : Cal1 ⟨P, w, K, mg, base, N, sc, fn, k, H0, io⟩ x n j0 F := by
  obtain ⟨f, fd, ps, h1, h2⟩ := h.ex
  exact ⟨f, fd, ps, h1.mono hk, h2⟩
theorem Cal01.of {P : Program} {w : World} {K : PySem.W.Frag} {mg : Str → Option Value} {base : Heap} {k : Nat} {x : Str} {n m j0 : Nat} {f : Sx} {st : Stmt} {N ps : List Str} (T : FnT K mg x st ps) (S : FnScope N ps (defScope st)) (hn : ps.length = n) (hm : N.length = n + m)
    (hb : ∀ H0 a, SsOk ⟨P, w, K, mg, base, N, defScope st, fun _ => true, k, H0, [(j0, a)]⟩ (defBody st) f) : Cal01 P w K mg base (k + 1) x n j0 (run1 j0 m f) := by
  obtain ⟨fa, fd, h1, h2, h3, h4⟩ := T
  exact ⟨fa, fd, ps, fn1_ok h2 S hn hm hb, h1, h3, h4⟩
end PL

namespace PL
open PySem PySem.Spec PyProof.Rows L2
section
variable {g : Cf} {X : Cx} {e a b c o f : Expr} {es : List Expr} {pos : Pos}
/-! ### more of dicts -/
def eDNew (t : Bool) : Ex := fun ρ => .ok (.o (.dic t []), ρ)
theorem e_dnewK : EOk g (.Dict [] [] pos) (eDNew false) := fun X W A tk =>
  PE.imp pe_dnewK fun σ H Q ⟨ρ, R, q⟩ => fun p hp => q _ (Ext.of_same (new_tup (K := X.K) hp)) (R.same (new_tup (K := X.K) hp)) _ ⟨p, rfl, ⟨_, upd_same, rfl⟩, not_own R hp, not_old R hp⟩
theorem e_dnewT : EOk g (.Dict [] [] pos) (eDNew true) := fun X W A tk =>
  PE.imp pe_dnewT fun σ H Q ⟨ρ, R, q⟩ => fun p hp => q _ (Ext.of_same (new_tup (K := X.K) hp)) (R.same (new_tup (K := X.K) hp)) _ ⟨p, rfl, ⟨_, upd_same, rfl⟩, not_own R hp, not_old R hp⟩
def dGet (d k : D) : Option (Option D) := match d with
  | .dic t kvs => (kOf t k).map (gGet t kvs)
  | _ => none
def isDic : D → Option Unit
  | .dic _ _ => some ()
  | _ => none
def eGet2 (l : List Nat) (fo fk fx : Ex) : Ex := fun ρ => fo ρ >>= fun p => PL.pk p.2 p.1 >>= fun d0 => liftO (isDic d0) >>= fun _ => fk p.2 >>= fun q => eF l fx q.2 >>= fun r => PL.pk r.2 p.1 >>= fun d => PL.pk r.2 q.1 >>= fun k => liftO (dGet d k) >>= fun o => .ok (.v (o.getD r.1), r.2)
def eGet1 (fo fk : Ex) : Ex := fun ρ => fo ρ >>= fun p => PL.pk p.2 p.1 >>= fun d0 => liftO (isDic d0) >>= fun _ => fk p.2 >>= fun q => PL.pk q.2 p.1 >>= fun d => PL.pk q.2 q.1 >>= fun k => liftO (dGet d k) >>= fun o => .ok (.v (o.getD .non), q.2)
theorem isDic_is {d : D} {u : Unit} (h : isDic d = some u) : ∃ t kvs, d = .dic t kvs := by
  cases d <;> first | exact ⟨_, _, rfl⟩ | cases h
theorem dGet_is {K : PySem.W.Frag} {H : Hp} {d k : D} {x y : V} {od : Option D} (h : dGet d k = some od) (r1 : Rd K H d x) (r2 : Rd K H k y) : ∃ a o, x = .ref a ∧ DGet H a y o ∧ ImmO K H od o := by
  unfold dGet at h
  split at h
  · rename_i t kvs
    cases e : kOf t k with
    | none => rw [e] at h; cases h
    | some kk => rw [e] at h; cases h; exact dget_of r1 r2 e
  · cases h
theorem ImmO.getD {K : PySem.W.Frag} {H : Hp} {d : D} {z : V} : ∀ {od : Option D} {o : Option V}, ImmO K H od o → Imm K H d z → Imm K H (od.getD d) (o.getD z)
  | none, _, h, im => by cases (show _ = _ from h); exact im
  | some d', _, ⟨v, e, h⟩, im => by subst e; exact h
theorem e_get2 {apos cpos : Pos} {fo fk fx : Ex} (ho : EOk g o fo) (hk : EOk g e fk) (hx : EOk g f fx) (hm : ∀ X : Cx, M2 X o "get" apos e f cpos := by intro X; exact ⟨rfl, rfl, rfl, rfl⟩) : EOk g (.Call (.Attribute o "get" apos) [e, f] [] cpos) (eGet2 g.ios fo fk fx) := fun X W A tk => by
  refine PE.imp (pe_dget2 (by have := A.room.un; omega) (ho.n A tk) (hk.n A tk) (hx.f A tk) (hm X)) fun σ H Q ⟨ρ, R, q⟩ => ?_
  refine tN_step R q fun s1 ρ1 x H1 R1 E1 n1 q1 => ?_
  obtain ⟨d0, h0, q2⟩ := q1.pk
  obtain ⟨u, hu, q3⟩ := q2.opt
  obtain ⟨t, kvs, rfl⟩ := isDic_is hu
  obtain ⟨a, rfl, isd⟩ := isD_of (pk_rd n1 R1 (Ext.refl _) h0)
  refine ⟨a, rfl, isd, tN_step R1 q3 fun s2 ρ2 y H2 R2 E2 n2 q4 => tF_step R2 q4 fun d3 ρ3 z H3 R3 E3 im q5 => ?_⟩
  obtain ⟨d, h1, q6⟩ := q5.pk
  obtain ⟨k, h2, q7⟩ := q6.pk
  obtain ⟨od, h3, q8⟩ := q7.opt
  obtain ⟨a', o, ea, h4, h5⟩ := dGet_is h3 (pk_rd n1 R3 (E2.trans E3) h1) (pk_rd n2 R3 E3 h2)
  cases ea
  exact ⟨o, h4, q8 H3 (Ext.refl _) R3 _ (h5.getD im)⟩
theorem e_get1 {apos cpos : Pos} {fo fk : Ex} (ho : EOk g o fo) (hk : EOk g e fk) (hm : ∀ X : Cx, M1 X o "get" apos e cpos := by intro X; exact ⟨rfl, rfl, rfl, rfl⟩) : EOk g (.Call (.Attribute o "get" apos) [e] [] cpos) (eGet1 fo fk) := fun X W A tk => by
  refine PE.imp (pe_dget1 (by have := A.room.un; omega) (ho.n A tk) (hk.n A tk) (hm X)) fun σ H Q ⟨ρ, R, q⟩ => ?_
  refine tN_step R q fun s1 ρ1 x H1 R1 E1 n1 q1 => ?_
  obtain ⟨d0, h0, q2⟩ := q1.pk
  obtain ⟨u, hu, q3⟩ := q2.opt
  obtain ⟨t, kvs, rfl⟩ := isDic_is hu
  obtain ⟨a, rfl, isd⟩ := isD_of (pk_rd n1 R1 (Ext.refl _) h0)
  refine ⟨a, rfl, isd, tN_step R1 q3 fun s2 ρ2 y H2 R2 E2 n2 q5 => ?_⟩
  obtain ⟨d, h1, q6⟩ := q5.pk
  obtain ⟨k, h2, q7⟩ := q6.pk
  obtain ⟨od, h3, q8⟩ := q7.opt
  obtain ⟨a', o, ea, h4, h5⟩ := dGet_is h3 (pk_rd n1 R2 E2 h1) (pk_rd n2 R2 (Ext.refl _) h2)
  cases ea
  exact ⟨o, h4, q8 H2 (Ext.refl _) R2 _ (h5.getD rfl)⟩
end
end PL

namespace PL
open PySem PySem.Spec PyProof.Rows L2
/-! ### sorted -/
def leI (a b : Int) : Bool := decide (a ≤ b)
def srtI (ns : List Int) : List Int := ns.mergeSort leI
theorem srtI_le (ns : List Int) : (srtI ns).Pairwise (· ≤ ·) := by
  have h := List.pairwise_mergeSort (le := leI) (fun a b c h1 h2 => by unfold leI at *; simp at *; omega) (fun a b => by unfold leI; simp; omega) ns
  exact h.imp fun e => by unfold leI at e; simpa using e
theorem srtI_perm (ns : List Int) : (srtI ns).Perm ns := List.mergeSort_perm ns leI
theorem srtI_eq {ns ys : List Int} (p : ys.Perm ns) (s : ys.Pairwise (· ≤ ·)) : ys = srtI ns :=
  List.Perm.eq_of_pairwise (fun a b _ _ h1 h2 => Int.le_antisymm h1 h2) s (srtI_le ns) (p.trans (srtI_perm ns).symm)
def leT (a b : Str) : Bool := decide (a.cps.toList ≤ b.cps.toList)
def srtS (ns : List Str) : List Str := ns.mergeSort leT
theorem leT_trans {a b c : Str} (h1 : leT a b = true) (h2 : leT b c = true) : leT a c = true := by
  unfold leT at *
  simp only [decide_eq_true_eq] at *
  exact List.le_trans h1 h2
theorem leT_anti {a b : Str} (h1 : leT a b = true) (h2 : leT b a = true) : a = b := by
  unfold leT at *
  simp only [decide_eq_true_eq] at *
  have e := List.le_antisymm h1 h2
  cases a; cases b
  simp only [Str.mk.injEq]
  exact Array.ext' e
theorem srtS_le (ns : List Str) : (srtS ns).Pairwise (fun a b => leT a b = true) :=
  List.pairwise_mergeSort (le := leT) (fun a b c h1 h2 => leT_trans h1 h2) (fun a b => by
    unfold leT
    rcases List.le_total a.cps.toList b.cps.toList with h | h
    · simp [h]
    · simp [h]) ns
theorem srtS_perm (ns : List Str) : (srtS ns).Perm ns := List.mergeSort_perm ns leT
theorem leT_of {a b : Str} (h : ltCps b.cps.toList a.cps.toList = false) : leT a b = true := by
  rw [ltCps_eq] at h
  unfold leT
  simpa using h
theorem rising_le : ∀ {p : Str} {l : List Str}, risingS p l = true → (p :: l).Pairwise (fun a b => leT a b = true)
  | p, [], _ => by simp
  | p, x :: r, h => by
    unfold risingS at h
    rw [Bool.and_eq_true] at h
    have h1 := leT_of (by simpa using h.1)
    have ih := rising_le h.2
    refine List.pairwise_cons.mpr ⟨fun y hy => ?_, ih⟩
    rcases List.mem_cons.mp hy with e | hy
    · subst e; exact h1
    · exact leT_trans h1 (List.rel_of_pairwise_cons ih hy)
theorem sorted_le : ∀ {l : List Str}, sortedS l = true → l.Pairwise (fun a b => leT a b = true)
  | [], _ => List.Pairwise.nil
  | x :: r, h => rising_le h
theorem srtS_eq {ns ys : List Str} (p : ys.Perm ns) (s : sortedS ys = true) : ys = srtS ns :=
  List.Perm.eq_of_pairwise (fun a b _ _ h1 h2 => leT_anti h1 h2) (sorted_le s) (srtS_le ns) (p.trans (srtS_perm ns).symm)
/-! ### the rule -/
def strsD : List D → Option (List Str)
  | [] => some []
  | .str i :: ds => (strsD ds).map (i :: ·)
  | _ :: _ => none
theorem immL_strs {K : PySem.W.Frag} {H : Hp} : ∀ {ds : List D} {vs : List V} {ns : List Str}, ImmL K H ds vs → strsD ds = some ns → vs = ns.map V.str
  | [], _, _, h, e => by cases (show _ = _ from h); cases e; rfl
  | d :: ds, _, ns, ⟨v, r, e1, h1, h2⟩, e => by
    cases d with
    | str i =>
      unfold strsD at e
      cases e2 : strsD ds with
      | none => rw [e2] at e; cases e
      | some ns' =>
        rw [e2] at e
        cases e
        rw [e1, immL_strs h2 e2, (show v = V.str i from h1)]
        rfl
    | _ => cases e
theorem immL_map_str {K : PySem.W.Frag} {H : Hp} : ∀ ns : List Str, ImmL K H (ns.map .str) (ns.map V.str)
  | [] => rfl
  | n :: ns => ⟨_, _, rfl, rfl, immL_map_str ns⟩
def dSrt : List D → Option S
  | [.lst ds] => match intsD ds with
    | some ns => some (.o (.lst ((srtI ns).map .int)))
    | none => match strsD ds with
      | some zs => if zs.length < 64 then some (.o (.lst ((srtS zs).map .str))) else none
      | none => none
  | [.scr ns] => some (.o (.lst ((srtI ns).map .int)))
  | [.dic false kvs] => match strsD (kvs.map (·.1)) with
    | some zs => if zs.length < 64 then some (.o (.lst ((srtS zs).map .str))) else none
    | none => match intsD (kvs.map (·.1)) with
      | some ns => if ns.length < 64 then some (.o (.lst ((srtI ns).map .int))) else none
      | none => none
  | _ => none
theorem immK_strs {K : PySem.W.Frag} {H : Hp} : ∀ {kvs : List (D × D)} {kws : List (Key × V)} {zs : List Str}, ImmK K H kvs kws → strsD (kvs.map (·.1)) = some zs → kws.map (·.1) = zs.map Sum.inr
  | [], _, _, h, e => by cases (show _ = _ from h); cases e; rfl
  | (k, d) :: ds, _, ns, ⟨kk, v, r, e1, h0, h1, h2⟩, e => by
    subst e1
    cases k with
    | str i =>
      cases h0
      rw [List.map_cons] at e
      unfold strsD at e
      cases e2 : strsD (ds.map (·.1)) with
      | none => rw [e2] at e; cases e
      | some ns' =>
        rw [e2] at e
        cases e
        rw [List.map_cons, immK_strs h2 e2]
        rfl
    | _ => cases e
theorem immK_ints {K : PySem.W.Frag} {H : Hp} : ∀ {kvs : List (D × D)} {kws : List (Key × V)} {zs : List Int}, ImmK K H kvs kws → intsD (kvs.map (·.1)) = some zs → kws.map (·.1) = zs.map Sum.inl
  | [], _, _, h, e => by cases (show _ = _ from h); cases e; rfl
  | (k, d) :: ds, _, ns, ⟨kk, v, r, e1, h0, h1, h2⟩, e => by
    subst e1
    cases k with
    | int i =>
      cases h0
      rw [List.map_cons] at e
      unfold intsD at e
      cases e2 : intsD (ds.map (·.1)) with
      | none => rw [e2] at e; cases e
      | some ns' =>
        rw [e2] at e
        cases e
        rw [List.map_cons, immK_ints h2 e2]
        rfl
    | _ => cases e
section
variable {g : Cf} {X : Cx}
theorem c_srt (A : At g X) : CR X (.builtin "sorted") dSrt := by
  refine ⟨_, CallR.or cr_sortedI (CallR.or cr_sortedS (CallR.or (call_sortedD A.calm) (call_sortedDI A.calm))), fun xs H Q ds s p h q => ?_⟩
  have outI : ∀ (ns ys : List Int) (p : Addr), s = .o (.lst ((srtI ns).map .int)) → ys.Perm ns → ys.Pairwise (· ≤ ·) → H p = none → Q (.ref p) (upd H p (.lst (ys.map V.int))) := fun ns ys p es h1 h2 hp => by
    subst es
    rw [srtI_eq h1 h2]
    exact q _ _ (new_tup (K := X.K) hp) ⟨p, rfl, hp, _, upd_same, immL_map_int _⟩
  have outS : ∀ (ns ys : List Str) (p : Addr), s = .o (.lst ((srtS ns).map .str)) → ys.Perm ns → sortedS ys = true → H p = none → Q (.ref p) (upd H p (.lst (ys.map V.str))) := fun ns ys p es h1 h2 hp => by
    subst es
    rw [srtS_eq h1 h2]
    exact q _ _ (new_tup (K := X.K) hp) ⟨p, rfl, hp, _, upd_same, immL_map_str _⟩
  match ds, h with
  | [.lst ds], h =>
    obtain ⟨x, rfl, r⟩ := pair1 p
    obtain ⟨a, vs, rfl, s1, i1⟩ := r.lst
    simp only [dSrt] at h
    split at h
    · rename_i ns hn
      cases h
      exact .inl ⟨a, ns, rfl, by rw [← immL_ints i1 hn]; exact s1, fun ys p h1 h2 hp => outI _ ys p rfl h1 h2 hp⟩
    · split at h
      · rename_i zs hn
        split at h
        · rename_i hl
          cases h
          exact .inr (.inl ⟨a, zs, rfl, by rw [← immL_strs i1 hn]; exact s1, hl, fun ys p h1 h2 hp => outS _ ys p rfl h1 h2 hp⟩)
        · cases h
      · cases h
  | [.scr ns], h =>
    obtain ⟨x, rfl, r⟩ := pair1 p
    obtain ⟨a, rfl, s1⟩ := r.scr
    cases h
    exact .inl ⟨a, ns, rfl, s1, fun ys p h1 h2 hp => outI _ ys p rfl h1 h2 hp⟩
  | [.dic false kvs], h =>
    obtain ⟨x, rfl, r⟩ := pair1 p
    obtain ⟨a, kws, rfl, s1, i1⟩ := r.dicK
    simp only [dSrt] at h
    split at h
    · rename_i zs hn
      split at h
      · rename_i hl
        cases h
        exact .inr (.inr (.inl ⟨a, kws, zs, rfl, s1, immK_strs i1 hn, hl, fun ys p h1 h2 hp => outS _ ys p rfl h1 h2 hp⟩))
      · cases h
    · split at h
      · rename_i zs hn
        split at h
        · rename_i hl
          cases h
          exact .inr (.inr (.inr ⟨a, kws, zs, rfl, s1, immK_ints i1 hn, hl, fun ys p h1 h2 hp => outI _ ys p rfl h1 h2 hp⟩))
        · cases h
      · cases h
end
end PL

namespace PL
open PySem PySem.Spec PyProof.Rows L2
section
variable {g : Cf} {X : Cx} {e a b c o f tg : Expr} {es : List Expr} {pos : Pos}
/-! ### extend -/
def rExtR : V → List V → Hp → VK → Prop := fun x vs H Q => ∃ l b xs zs, x = .ref l ∧ vs = [.ref b] ∧ H l = some (.lst xs) ∧ L2.Rd H b (.lst zs) ∧ xs.length + zs.length ≤ sizeLine ∧ Q .non (upd H l (.lst (xs ++ zs)))
theorem mt_extR : MtR X "list.extend" rExtR := by
  intro pins s σ H x vs v us Q I rx rv h
  obtain ⟨l, b, xs, zs, rfl, rfl, hH, hB, hz, q⟩ := h
  cases rx
  obtain ⟨u, rfl, ru⟩ := rv.one
  cases ru
  obtain ⟨z, its, n, r, hl, e⟩ := I.lstM hH
  have fin : ∀ (its2 : List Value), Vals zs its2 → its.toArray.size + its2.toArray.size ≤ sizeLine → EP X pins σ Q .none { s with heap := s.heap.update l (Obj.mapSeq fun x => x ++ its2.toArray), toks := s.toks } := fun its2 r2 hsz => by
    refine ⟨.non, _, I.lset (its' := its ++ its2) hH e (by simp) (r.append r2) ?_, rfl, q⟩
    rw [List.length_append]
    omega
  · obtain ⟨z2, its2, n2, r2, e2⟩ := hB.ok I.hok
    have hl2 := r2.length
    have hsz : its.toArray.size + its2.toArray.size ≤ sizeLine := by rw [List.size_toArray, List.size_toArray]; omega
    have hlong : ¬ (!its.toArray.isEmpty && Builtin.List.listTooLong (its.toArray.size + its2.toArray.size)) = true := by
      rw [notLongL hsz, Bool.and_false]
      exact Bool.false_ne_true
    exact call_meets PySem.F.slot_list_extend ⟨_, e, rfl⟩ PySem.F.entry_list_extend (PySem.F.args_list_extend_2 _ _)
      (AutoSeq1.list_extend_list_list_0 l its.toArray n b its2.toArray n2 hlong (by rw [List.size_toArray]; omega) (by omega)) ⟨e, e2, fin its2 r2 hsz⟩
def mExtend (ls ds : List D) : Option (D × List D) := match ds with
  | [.lst zs] => if ls.length + zs.length ≤ 16777216 then some (.non, ls ++ zs) else none
  | _ => none
theorem m_extend (A : At g X) : MtR X "list.extend" rExtR ∧ MlR X rExtR mExtend := ⟨mt_extR, fun a vs xs H Q ls ds ls' z hv iv im hod q => by
  match ds, hod with
  | [.lst zs], hod =>
    obtain ⟨x, rfl, ix⟩ := immL_1 im
    simp only [mExtend] at hod
    split at hod
    · rename_i hl
      cases hod
      obtain ⟨b, ws, rfl, ⟨o, hb⟩, iw⟩ := ix
      obtain ⟨e1, e2, e3⟩ := lst_upd hv (iv.append iw)
      exact ⟨a, b, vs, ws, rfl, rfl, hv, .inr ⟨o, hb⟩, by rw [iv.len, iw.len, sizeLine_eq]; exact hl, q _ _ e1 e2 e3 rfl⟩
    · cases hod⟩
/-! ### gcd -/
def dGcd : List D → Option S
  | [.int a, .int b] => some (.v (.int (Nat.gcd a.natAbs b.natAbs : Nat)))
  | _ => none
theorem c_gcd (A : At g X) : CR X (.builtin "math.gcd") dGcd := by
  refine ⟨_, cr_gcd, fun xs H Q ds s p h q => ?_⟩
  match ds, h with
  | [.int i, .int j], h =>
    obtain ⟨x, y, rfl, r, r'⟩ := pair2 p
    cases h
    exact ⟨i, j, by rw [r.int, r'.int], q _ H (Same.refl H) rfl⟩
theorem e_cbf {x : Str} {id : String} {p : Pos} {od : List D → Option S} {fa : Ax} (hc : ∀ X, At g X → CR X (.builtin id) od) (hm : g.mg x = some (.builtin id)) (ha : AOk g (e :: es) fa) (hg : Glo g x := by rfl)
    (hdb : (x == ("__debug__" : Str)) = false := by decide)
    (he : ∀ env, starEach (e :: es) env = (false, eval e env) :: starEach es env := by intro _; rfl) (hpl : ∀ env, (backTo pos (starEach es env)).any (·.1) = false := by intro _; rfl) : EOk g (.Call (.Name x p) (e :: es) [] pos) (eB od fa) := fun X W A tk => by
  obtain ⟨r, hr, h⟩ := hc X A
  exact PE.imp (pe_callBfun hr (hg.gl A) (by rw [A.mg]; exact hm) (ha X W A tk) hdb (he _) (hpl _)) fun σ H Q t => readCB h t
/-! ### len of a dict -/
theorem len_dc : CallR X (.builtin "len") (fun xs H Q => ∃ a kvs, xs = [.ref a] ∧ L2.Rd H a (.dK kvs) ∧ Q (.int kvs.length) H) := by
  intro pins s σ H xs us Q I r h
  obtain ⟨a, kvs, rfl, hd, q⟩ := h
  obtain ⟨u, rfl, ru⟩ := r.one
  cases ru
  exact d_len I hd fun t s' I' => ⟨.int kvs.length, H, I', ⟨t, rfl⟩, q⟩
def dLen1 : List D → Option S
  | [.dic false kvs] => some (.v (.int kvs.length))
  | ds => dLen ds
theorem c_len1 (A : At g X) : CR X (.builtin "len") dLen1 := by
  obtain ⟨r, hr, h⟩ := c_len (X := X) A
  refine ⟨_, CallR.or len_dc hr, fun xs H Q ds s p hd q => ?_⟩
  unfold dLen1 at hd
  split at hd
  · rename_i kvs
    obtain ⟨x, rfl, r⟩ := pair1 p
    obtain ⟨a, kws, rfl, s1, i1⟩ := r.dicK
    cases hd
    exact .inl ⟨a, kws, rfl, s1, by rw [immK_length i1]; exact q _ H (Same.refl H) rfl⟩
  · exact .inr (h xs H Q _ s p hd q)
/-! ### range(i, j, c) -/
def rg3D (lo c : Int) (n : Nat) : List D := (List.range n).map fun k : Nat => .int (lo + k * c)
theorem it_rgc {K : PySem.W.Frag} {H : Hp} {lo c : Int} {n : Nat} : ItOk K (Itc lo c n) (rg3D lo c n) H := by
  refine ⟨fun _ => True, YFn fun i => .int (lo + i * c), ?_, trivial, fun _ _ _ g => g, fun i H1 x H2 hi _ hy => ?_⟩
  · have w := walk_rangeC (lo := lo) (c := c) (n := n)
    rw [rg3D, List.length_map, List.length_range]
    exact w
  · obtain ⟨rfl, rfl⟩ := hy
    rw [rg3D, List.length_map, List.length_range] at hi
    refine ⟨Same.refl _, .int (lo + i * c), ?_, rfl⟩
    rw [rg3D, List.getElem?_map, List.getElem?_range hi]
    rfl
def rgN (i j c : Int) : Nat := (Builtin.Range.rangeSize i j c).toNat
def int3 : List D → Option (Int × Int × Int)
  | [.int i, .int j, .int c] => if c ≠ 0 ∧ c.natAbs < 1073741824 ∧ Builtin.Range.small i j c = true ∧ 0 ≤ Builtin.Range.rangeSize i j c then some (i, j, c) else none
  | _ => none
def iRg3 (fa : Ax) : Ix := fun ρ => fa ρ >>= fun p => pkL p.2 p.1 >>= fun ds => liftO (int3 ds) >>= fun j => .ok (rg3D j.1 j.2.2 (rgN j.1 j.2.1 j.2.2), p.2)
theorem pair3 {α β : Type} {R : α → β → Prop} {d1 d2 d3 : α} {xs : List β} (h : Paired R [d1, d2, d3] xs) : ∃ x y z, xs = [x, y, z] ∧ R d1 x ∧ R d2 y ∧ R d3 z := by
  cases h with
  | cons h1 t =>
    obtain ⟨y, z, e, h2, h3⟩ := pair2 t
    subst e
    exact ⟨_, y, z, rfl, h1, h2, h3⟩
theorem i_rg3 {p : Pos} {fa : Ax} (hm : g.mg "range" = none) (ha : AOk g [a, b, c] fa) (hg : Glo g "range" := by rfl) (hs : ∀ env, starEach [a, b, c] env = (false, eval a env) :: starEach [b, c] env := by intro _; rfl)
    (hpl : ∀ env, (backTo pos (starEach [b, c] env)).any (·.1) = false := by intro _; rfl) : IOk g tg (.Call (.Name "range" p) [a, b, c] [] pos) (iRg3 fa) := fun X W A tk => by
  refine PI.imp (pi_range3 (hg.gl A) (by rw [A.mg]; exact hm) (ha X W A tk) (hs _) (hpl _)) fun σ H Q ⟨ρ, R, q⟩ => tA_step R q fun ss ρ1 xs H1 R1 E1 n1 q1 => ?_
  obtain ⟨ds, h1, q3⟩ := q1.pkL
  obtain ⟨j, ho, q5⟩ := q3.opt
  have pr := pkL_rd R1 n1 h1
  match ds, ho with
  | [.int i', .int j', .int k'], ho =>
    obtain ⟨x, y, z, rfl, r, r', r''⟩ := pair3 pr
    simp only [int3] at ho
    split at ho
    · rename_i hz
      cases ho
      exact ⟨i', j', k', rgN i' j' k', by rw [r.int, r'.int, r''.int], ⟨hz.1, hz.2.1, hz.2.2.1, (Int.toNat_of_nonneg hz.2.2.2).symm⟩, q5 H1 (Ext.refl _) R1 _ it_rgc⟩
    · cases ho
/-! ### d.values(), d.items() -/
def dVals : D → Option (List D)
  | .dic false kvs => some (kvs.map (·.2))
  | _ => none
def dItems : D → Option (List D)
  | .dic false kvs => some (kvs.map fun p => .tup [p.1, p.2])
  | _ => none
theorem dVals_is {d : D} {ds : List D} (h : dVals d = some ds) : ∃ kvs, d = .dic false kvs ∧ ds = kvs.map (·.2) := by
  unfold dVals at h
  split at h
  · cases h; exact ⟨_, rfl, rfl⟩
  · cases h
theorem dItems_is {d : D} {ds : List D} (h : dItems d = some ds) : ∃ kvs, d = .dic false kvs ∧ ds = kvs.map fun p => .tup [p.1, p.2] := by
  unfold dItems at h
  split at h
  · cases h; exact ⟨_, rfl, rfl⟩
  · cases h
def Rd0 (K : PySem.W.Frag) (H : Hp) (kvs : List (D × D)) (x : V) : Prop := ∃ a o kws, x = .ref a ∧ H a = some (.frz o (.dK kws)) ∧ ImmK K H kvs kws
theorem it_vals {K : PySem.W.Frag} {H : Hp} {kvs : List (D × D)} {kws : List (Key × V)} {a : Addr} {o : Obj} (h1 : H a = some (.frz o (.dK kws))) (h2 : ImmK K H kvs kws) : ItOk K (Itd a o kws) (kvs.map (·.2)) H := by
  refine ⟨fun H => H a = some (.frz o (.dK kws)) ∧ ImmK K H kvs kws, fun i H x H' => H' = H ∧ ∃ k, kws[i]? = some (k, x), ?_, ⟨h1, h2⟩, fun H1 H2 e g => ⟨e.frz g.1, ImmK.ext e _ _ g.2⟩, fun i H1 x H2 hi hg hy => ?_⟩
  · have w := (walk_values (d := a) (o := o) (kvs := kws)).mono (G' := fun H => H a = some (.frz o (.dK kws)) ∧ ImmK K H kvs kws) (fun H g => g.1) fun _ _ _ _ _ _ y => y
    rw [List.length_map, ← immK_len h2]
    exact w
  · obtain ⟨rfl, k, h3⟩ := hy
    obtain ⟨kd, d, h4, h5, h6⟩ := immK_get hg.2 h3
    exact ⟨Same.refl _, d, by rw [List.getElem?_map, h4]; rfl, h6⟩
theorem it_items {K : PySem.W.Frag} {H : Hp} {kvs : List (D × D)} {kws : List (Key × V)} {a : Addr} {o : Obj} (h1 : H a = some (.frz o (.dK kws))) (h2 : ImmK K H kvs kws) : ItOk K (Iti a o kws) (kvs.map fun p => .tup [p.1, p.2]) H := by
  refine it_pair (by rw [List.length_map, ← immK_len h2]) ((walk_items (d := a) (o := o) (kvs := kws)).mono (G' := fun H => H a = some (.frz o (.dK kws)) ∧ ImmK K H kvs kws) (fun H g => g.1) fun _ _ _ _ _ _ y => y) ⟨h1, h2⟩ (fun H1 H2 e g => ⟨e.frz g.1, ImmK.ext e _ _ g.2⟩) fun i H1 x y hi g hx hy => ?_
  cases e : kws[i]? with
  | none => rw [e] at hx; cases hx
  | some kv =>
    rw [e] at hx hy
    cases hx; cases hy
    obtain ⟨kd, d, h4, h5, h6⟩ := immK_get g.2 (k := kv.1) (v := kv.2) e
    exact ⟨kd, d, by rw [List.getElem?_map, h4]; rfl, imm_key h5, h6⟩
def iDc (l : List Nat) (sel : D → Option (List D)) (f : Ex) : Ix := fun ρ => eF l f ρ >>= fun p => liftO (sel p.1) >>= fun ds => .ok (ds, p.2)
theorem i_values {apos cpos : Pos} {fa : Ex} (ha : EOk g a fa) (hbase : ∀ env, attributeBase a "values" env (eval a env) = eval a env := by intro _; rfl) (hline : (apos.endLine == cpos.line) = true := by rfl) :
    IOk g tg (.Call (.Attribute a "values" apos) [] [] cpos) (iDc g.ios dVals fa) := fun X W A tk => by
  refine PI.imp (pi_values (ha.f A tk) (hbase _) hline) fun σ H Q ⟨ρ, R, q⟩ => ?_
  refine tF_step R q fun d ρ1 x H1 R1 E1 im q1 => ?_
  obtain ⟨ds, hd, q2⟩ := q1.opt
  obtain ⟨kvs, rfl, rfl⟩ := dVals_is hd
  obtain ⟨p, o, kws, rfl, h1, h2⟩ := (show Rd0 X.K H1 kvs x from im)
  exact ⟨p, o, kws, rfl, h1, q2 H1 (Ext.refl _) R1 _ (it_vals h1 h2)⟩
theorem i_items {apos cpos tpos : Pos} {kk : Nat} {elts : List Expr} {fa : Ex} (ha : EOk g a fa) (hbase : ∀ env, attributeBase a "items" env (eval a env) = eval a env := by intro _; rfl) (hline : (apos.endLine == cpos.line) = true := by rfl) :
    IOk g (.Tuple elts kk tpos) (.Call (.Attribute a "items" apos) [] [] cpos) (iDc g.ios dItems fa) := fun X W A tk => by
  refine PI.imp (pi_items (ha.f A tk) (hbase _) hline) fun σ H Q ⟨ρ, R, q⟩ => ?_
  refine tF_step R q fun d ρ1 x H1 R1 E1 im q1 => ?_
  obtain ⟨ds, hd, q2⟩ := q1.opt
  obtain ⟨kvs, rfl, rfl⟩ := dItems_is hd
  obtain ⟨p, o, kws, rfl, h1, h2⟩ := (show Rd0 X.K H1 kvs x from im)
  exact ⟨p, o, kws, rfl, h1, q2 H1 (Ext.refl _) R1 _ (it_items h1 h2)⟩
/-! ### xs[::-1], s.join(xs) -/
theorem e_revL {k : Nat} {p1 p2 p3 : Pos} {fa : Ex} (ha : EOk g a fa) : EOk g (.Subscript a (.Slice none none (some (.UnaryOp .USub (.Constant (.int 1) k p1) p2)) p3) pos) (e1 dRev fa) := fun X W A tk => by
  refine PE.imp (pe_revL (ha.n A tk)) fun σ H Q t => read1 (r := fun x H1 Q => ∃ a xs, x = .ref a ∧ SqL X.K H1 a xs ∧ ∀ p, H1 p = none → Q (.ref p) (upd H1 p (.lst xs.reverse))) (fun x H Q d s r1 h q => ?_) t
  unfold dRev at h
  split at h
  · cases h
    obtain ⟨a, vs, rfl, s1, i1⟩ := r1.lst
    exact ⟨a, vs, rfl, s1, fun p hp => q _ _ (new_tup (K := X.K) hp) ⟨p, rfl, hp, _, upd_same, ImmL.ext (Ext.of_same (new_tup (K := X.K) hp)) _ _ i1.reverse⟩⟩
  · cases h
def strS : S → Option Str
  | .v (.str a) => some a
  | _ => none
def dJoin (a : Str) (d : D) : Option S := (dSeq d).bind fun ds => (strsD ds).bind fun ys => if (ys.map (·.length)).sum + ys.length * a.length ≤ 16777216 then some (.v (.str (Txt.join a ys))) else none
def eJoin (fo fe : Ex) : Ex := fun ρ => fo ρ >>= fun p => liftO (strS p.1) >>= fun a => fe p.2 >>= fun q => PL.pk q.2 q.1 >>= fun d => liftO (dJoin a d) >>= fun s => .ok (s, q.2)
theorem strS_is {s : S} {a : Str} (h : strS s = some a) : s = .v (.str a) := by
  unfold strS at h
  split at h
  · cases h; rfl
  · cases h
theorem dSeq_sq {K : PySem.W.Frag} {H : Hp} {d : D} {ds : List D} {x : V} (h : dSeq d = some ds) (r : Rd K H d x) : ∃ a vs, x = .ref a ∧ (SqL K H a vs ∨ SqT K H a vs) ∧ ImmL K H ds vs := by
  cases d with
  | tup es => cases h; obtain ⟨a, vs, e, s1, i1⟩ := r.tup; exact ⟨a, vs, e, .inr s1.seq, i1⟩
  | lst es => cases h; obtain ⟨a, vs, e, s1, i1⟩ := r.lst; exact ⟨a, vs, e, .inl s1, i1⟩
  | scr es => cases h; obtain ⟨a, e, s1⟩ := r.scr; exact ⟨a, _, e, .inl s1, immL_map_int _⟩
  | _ => cases h
theorem e_join {apos : Pos} {fo fe : Ex} (ho : EOk g o fo) (he : EOk g e fe) (hs : ∀ env, starEach [e] env = [(false, eval e env)] := by intro _; rfl) (hbase : ∀ env, attributeBase o "join" env (eval o env) = eval o env := by intro _; rfl) (hline : (apos.endLine == pos.line) = true := by rfl) :
    EOk g (.Call (.Attribute o "join" apos) [e] [] pos) (eJoin fo fe) := fun X W A tk => by
  refine PE.imp (pe_join (ho.n A tk) (he.n A tk) (hs _) (hbase _) hline) fun σ H Q ⟨ρ, R, q⟩ => ?_
  refine tN_step R q fun s1 ρ1 x H1 R1 E1 n1 q1 => ?_
  obtain ⟨a, ha, q2⟩ := q1.opt
  cases strS_is ha
  cases (show x = V.str a from n1)
  refine ⟨⟨a, rfl⟩, tN_step R1 q2 fun s2 ρ2 y H2 R2 E2 n2 q3 => ?_⟩
  obtain ⟨d, h1, q4⟩ := q3.pk
  obtain ⟨s, h2, q5⟩ := q4.opt
  unfold dJoin at h2
  cases h3 : dSeq d with
  | none => rw [h3] at h2; cases h2
  | some ds =>
    rw [h3, Option.bind_some] at h2
    cases h4 : strsD ds with
    | none => rw [h4] at h2; cases h2
    | some ys =>
      rw [h4, Option.bind_some] at h2
      split at h2
      · rename_i hz
        cases h2
        obtain ⟨b, vs, rfl, s1, i1⟩ := dSeq_sq h3 (pk_rd n2 R2 (Ext.refl _) h1)
        have e := immL_strs i1 h4
        subst e
        exact ⟨a, b, ys, rfl, rfl, s1, hz, q5 H2 (Ext.refl _) R2 _ rfl⟩
      · cases h2
end
end PL

/-! what the mirrors compute: equations for simp -/
namespace PL
open PySem PySem.Spec PyProof.Rows L2
/-- bind, written so that simp looks at the first reckoning alone -/
abbrev Wit {α β : Type} (_ : α → Out β) : Type := Unit
def bnd {α β : Type} (k : α → Out β) (w : Wit k) (r : Out α) : Out β := r >>= k
@[simp ↓] theorem x_bind {α β : Type} (r : Out α) (k : α → Out β) : (r >>= k) = bnd k () r := (rfl)
@[simp] theorem x_bnd1 {α β : Type} (a : α) (k : α → Out β) (w : Wit k) : bnd k w (.ok a) = k a := (rfl)
@[simp] theorem x_bnd2 {α β : Type} (c : Str) (ρ : Rho) (k : α → Out β) (w : Wit k) : bnd k w (.exc c ρ) = .exc c ρ := (rfl)
@[simp] theorem x_bnd3 {α β : Type} (k : α → Out β) (w : Wit k) : bnd k w .stuck = .stuck := (rfl)
section
variable {ρ : Rho} {od : D → D → Option S} {l : List Nat}
@[simp] theorem x_runF (m : Nat) (f : Sx) (ds : List D) : runF m f ds = (f (rhoV m ds) >>= endF) := (rfl)
@[simp] theorem x_rhoV (m : Nat) (ds : List D) : rhoV m ds = ds.map (fun d => some (S.v d)) ++ List.replicate m none := (rfl)
@[simp] theorem x_endF1 (s : S) (ρ : Rho) : endF (.ret s ρ) = .ok s := (rfl)
@[simp] theorem x_endF2 (ρ : Rho) : endF (.next ρ) = .ok (.v .non) := (rfl)
@[simp] theorem x_eC (d : D) : eC d ρ = .ok (.v d, ρ) := (rfl)
@[simp] theorem x_eVar (i : Nat) : eVar i ρ = (match ρ[i]? with
  | some (some (.v d)) => .ok (.v d, ρ)
  | some (some (.o _)) => .ok (.b i, ρ)
  | _ => .stuck) := (rfl)
@[simp] theorem x_pkv (d : D) : pk ρ (.v d) = .ok d := (rfl)
@[simp] theorem x_pko (d : D) : pk ρ (.o d) = .ok d := (rfl)
@[simp] theorem x_pkb (i : Nat) : pk ρ (.b i) = (match ρ[i]? with
    | some (some (.o d)) => .ok d
    | some (some (.v d)) => .ok d
    | _ => .stuck) := (rfl)
@[simp] theorem x_e2 (fa fb : Ex) : e2 od fa fb ρ = (fa ρ >>= fun p => fb p.2 >>= fun q => pk q.2 p.1 >>= fun d1 => pk q.2 q.1 >>= fun d2 => liftO (od d1 d2) >>= fun s => .ok (s, q.2)) := (rfl)
@[simp] theorem x_e1 (od : D → Option S) (fa : Ex) : e1 od fa ρ = (fa ρ >>= fun p => pk p.2 p.1 >>= fun d1 => liftO (od d1) >>= fun s => .ok (s, p.2)) := (rfl)
@[simp] theorem x_bE (t : Tx) : bE t ρ = (t ρ >>= fun p => .ok (.v (.bl p.1), p.2)) := (rfl)
@[simp] theorem x_tTru (fa : Ex) : tTru fa ρ = (fa ρ >>= fun p => pk p.2 p.1 >>= fun d => liftO (dTru d) >>= fun b => .ok (b, p.2)) := (rfl)
@[simp] theorem x_t2 (od : D → D → Option Bool) (fa fb : Ex) : t2 od fa fb ρ = (fa ρ >>= fun p => fb p.2 >>= fun q => pk q.2 p.1 >>= fun d1 => pk q.2 q.1 >>= fun d2 => liftO (od d1 d2) >>= fun k => .ok (k, q.2)) := (rfl)
@[simp] theorem x_tCh (od od' : D → D → Option Bool) (fa fb fc : Ex) : tCh od od' fa fb fc ρ = (fa ρ >>= fun p => fb p.2 >>= fun q => pk q.2 p.1 >>= fun d1 => pk q.2 q.1 >>= fun d2 => liftO (od d1 d2) >>= fun k =>
  if k = true then fc q.2 >>= fun r => pk r.2 q.1 >>= fun d2 => pk r.2 r.1 >>= fun d3 => liftO (od' d2 d3) >>= fun k' => .ok (k', r.2) else .ok (false, q.2)) := (rfl)
@[simp] theorem x_tAnd (t u : Tx) : tAnd t u ρ = (t ρ >>= fun p => if p.1 = true then u p.2 else .ok (false, p.2)) := (rfl)
@[simp] theorem x_tOr (t u : Tx) : tOr t u ρ = (t ρ >>= fun p => if p.1 = true then .ok (true, p.2) else u p.2) := (rfl)
@[simp] theorem x_tNot (t : Tx) : tNot t ρ = (t ρ >>= fun p => .ok (!p.1, p.2)) := (rfl)
@[simp] theorem x_eAnd (fa fb : Ex) : eAnd fa fb ρ = (fa ρ >>= fun p => pk p.2 p.1 >>= fun d => match d with
  | .bl true => fb p.2
  | .bl false => .ok (.v (.bl false), p.2)
  | _ => .stuck) := (rfl)
@[simp] theorem x_eOr (fa fb : Ex) : eOr fa fb ρ = (fa ρ >>= fun p => pk p.2 p.1 >>= fun d => match d with
  | .bl true => .ok (.v (.bl true), p.2)
  | .bl false => fb p.2
  | _ => .stuck) := (rfl)
@[simp] theorem x_eNot (fa : Ex) : eNot fa ρ = (fa ρ >>= fun p => pk p.2 p.1 >>= fun d => match d with
  | .bl k => .ok (.v (.bl (!k)), p.2)
  | _ => .stuck) := (rfl)
@[simp] theorem x_eIf (t : Tx) (fa fb : Ex) : eIf t fa fb ρ = (t ρ >>= fun p => if p.1 = true then fa p.2 else fb p.2) := (rfl)
@[simp] theorem x_fzv (d : D) : fz l (.v d) ρ = .ok (d, ρ) := (rfl)
@[simp] theorem x_fzo (d : D) : fz l (.o d) ρ = .ok (d, ρ) := (rfl)
@[simp] theorem x_fzb (i : Nat) : fz l (.b i) ρ = (if i ∈ l then .stuck else match ρ[i]? with
    | some (some (.o d)) => .ok (d, ρ.set i (some (.v d)))
    | some (some (.v d)) => .ok (d, ρ)
    | _ => .stuck) := (rfl)
@[simp] theorem x_fzL0 : fzL l [] ρ = .ok ([], ρ) := (rfl)
@[simp] theorem x_fzL1 (s : S) (ss : List S) : fzL l (s :: ss) ρ = (fz l s ρ >>= fun p => fzL l ss p.2 >>= fun q => .ok (p.1 :: q.1, q.2)) := (rfl)
@[simp] theorem x_eF (f : Ex) : eF l f ρ = (f ρ >>= fun p => fz l p.1 p.2) := (rfl)
@[simp] theorem x_aNil : aNil ρ = .ok ([], ρ) := (rfl)
@[simp] theorem x_aCons (f : Ex) (r : Ax) : aCons f r ρ = (f ρ >>= fun p => r p.2 >>= fun q => .ok (p.1 :: q.1, q.2)) := (rfl)
@[simp] theorem x_aF (f : Ax) : aF l f ρ = (f ρ >>= fun p => fzL l p.1 p.2) := (rfl)
@[simp] theorem x_eTup (f : Ax) : eTup l f ρ = (aF l f ρ >>= fun p => if p.1.length ≤ 16777216 then .ok (.v (.tup p.1), p.2) else .stuck) := (rfl)
@[simp] theorem x_eLst (f : Ax) : eLst l f ρ = (aF l f ρ >>= fun p => if p.1.length ≤ 16777216 then .ok (.o (.lst p.1), p.2) else .stuck) := (rfl)
@[simp] theorem x_pNo : pNo ρ = .ok (none, ρ) := (rfl)
@[simp] theorem x_pSo (f : Ex) : pSo f ρ = (f ρ >>= fun p => pk p.2 p.1 >>= fun d => liftO (dInt d) >>= fun i => .ok (some i, p.2)) := (rfl)
@[simp] theorem x_dInt (i : Int) : dInt (.int i) = some i := (rfl)
@[simp] theorem x_eSl (f : Ex) (lo hi : Px) : eSl f lo hi ρ = (f ρ >>= fun p => lo p.2 >>= fun q => hi q.2 >>= fun r => pk r.2 p.1 >>= fun d => liftO (dSl d q.1 r.1) >>= fun s => .ok (s, r.2)) := (rfl)
@[simp] theorem x_pkL0 : pkL ρ [] = .ok [] := (rfl)
@[simp] theorem x_pkL1 (s : S) (ss : List S) : pkL ρ (s :: ss) = (pk ρ s >>= fun d => pkL ρ ss >>= fun ds => .ok (d :: ds)) := (rfl)
@[simp] theorem x_eB (od : List D → Option S) (fa : Ax) : eB od fa ρ = (fa ρ >>= fun p => pkL p.2 p.1 >>= fun ds => liftO (od ds) >>= fun s => .ok (s, p.2)) := (rfl)
@[simp] theorem x_tIsi (f : D → Option Bool) (fa : Ex) : tIsi f fa ρ = (fa ρ >>= fun p => pk p.2 p.1 >>= fun d => liftO (f d) >>= fun k => .ok (k, p.2)) := (rfl)
@[simp] theorem x_eCall (n : Nat) (F : Fn) (fa : Ax) : eCall l n F fa ρ = (aF l fa ρ >>= fun p => if p.1.length = n then atR p.2 (F p.1) else .stuck) := (rfl)
@[simp] theorem x_atR1 (s : S) : atR ρ (.ok s) = .ok (s, ρ) := (rfl)
@[simp] theorem x_atR2 (c : Str) (ρ' : Rho) : atR ρ (.exc c ρ') = .exc c ρ := (rfl)
/-! statements -/
@[simp] theorem x_sSeq (f h : Sx) : sSeq f h ρ = (f ρ >>= fun r => match r with
  | .next ρ' => h ρ'
  | .ret s ρ' => .ok (.ret s ρ')
  | .brk ρ' => .ok (.brk ρ')
  | .cnt ρ' => .ok (.cnt ρ')) := (rfl)
@[simp] theorem x_sNil : sNil ρ = .ok (.next ρ) := (rfl)
@[simp] theorem x_sBrk : sBrk ρ = .ok (.brk ρ) := (rfl)
@[simp] theorem x_sCnt : sCnt ρ = .ok (.cnt ρ) := (rfl)
@[simp] theorem x_sEx (f : Ex) : sEx f ρ = (f ρ >>= fun p => .ok (.next p.2)) := (rfl)
@[simp] theorem x_mvv (d : D) : mv l (.v d) ρ = .ok (.v d, ρ) := (rfl)
@[simp] theorem x_mvo (d : D) : mv l (.o d) ρ = .ok (.o d, ρ) := (rfl)
@[simp] theorem x_mvb (i : Nat) : mv l (.b i) ρ = (if i ∈ l then .stuck else match ρ[i]? with
    | some (some (.o d)) => .ok (.o d, ρ)
    | some (some (.v d)) => .ok (.v d, ρ)
    | _ => .stuck) := (rfl)
@[simp] theorem x_sRet (f : Ex) : sRet l f ρ = (f ρ >>= fun p => mv l p.1 p.2 >>= fun r => .ok (.ret r.1 r.2)) := (rfl)
@[simp] theorem x_sRetN : sRetN ρ = .ok (.ret (.v .non) ρ) := (rfl)
@[simp] theorem x_bdv (d : D) : bd l (.v d) ρ = .ok (.v d, ρ) := (rfl)
@[simp] theorem x_bdo (d : D) : bd l (.o d) ρ = .ok (.o d, ρ) := (rfl)
@[simp] theorem x_bdb (i : Nat) : bd l (.b i) ρ = (fz l (.b i) ρ >>= fun p => .ok (.v p.1, p.2)) := (rfl)
@[simp] theorem x_sSet (i : Nat) (f : Ex) : sSet l i f ρ = (f ρ >>= fun p => bd l p.1 p.2 >>= fun p => if i ∈ l then .stuck else .ok (.next (p.2.set i (some p.1)))) := by
  unfold sSet eBd
  cases f ρ <;> rfl
@[simp] theorem x_gNm (i : Nat) (d : D) : gNm l i d ρ = (if i ∈ l then none else some (ρ.set i (some (.v d)))) := (rfl)
@[simp] theorem x_gsNil : gsNil [] ρ = some ρ := (rfl)
@[simp] theorem x_gsCons (f : Gx) (r : Gxs) (d : D) (ds : List D) : gsCons f r (d :: ds) ρ = (f d ρ).bind fun ρ' => r ds ρ' := (rfl)
@[simp] theorem x_gTp1 (n : Nat) (r : Gxs) (ds : List D) : gTp n r (.tup ds) ρ = (if ds.length = n then r ds ρ else none) := (rfl)
@[simp] theorem x_gTp2 (n : Nat) (r : Gxs) (ds : List D) : gTp n r (.lst ds) ρ = (if ds.length = n then r ds ρ else none) := (rfl)
@[simp] theorem x_sAsg (f : Ex) (t : Gx) : sAsg l f t ρ = (f ρ >>= fun p => fz l p.1 p.2 >>= fun p => liftO (t p.1 p.2) >>= fun ρ' => .ok (.next ρ')) := by
  unfold sAsg eF
  cases f ρ <;> rfl
@[simp] theorem x_sIf (t : Tx) (f h : Sx) : sIf t f h ρ = (t ρ >>= fun p => if p.1 = true then f p.2 else h p.2) := (rfl)
@[simp] theorem x_sFor (i : Ix) (t : Gx) (f : Sx) : sFor i t f ρ = (i ρ >>= fun p => lp t f p.1 p.2) := (rfl)
@[simp] theorem x_lp0 (t : Gx) (f : Sx) : lp t f [] ρ = .ok (.next ρ) := (rfl)
theorem x_lp1 (t : Gx) (f : Sx) (d : D) (ds : List D) : lp t f (d :: ds) ρ = (liftO (t d ρ) >>= fun ρ1 => f ρ1 >>= aft (lp t f ds)) := (rfl)
@[simp] theorem x_aft1 (k : Sx) : aft k (.next ρ) = k ρ := (rfl)
@[simp] theorem x_aft2 (k : Sx) : aft k (.cnt ρ) = k ρ := (rfl)
@[simp] theorem x_aft3 (k : Sx) : aft k (.brk ρ) = .ok (.next ρ) := (rfl)
@[simp] theorem x_aft4 (k : Sx) (s : S) : aft k (.ret s ρ) = .ok (.ret s ρ) := (rfl)
@[simp] theorem x_iVal (f : Ex) : iVal l f ρ = (f ρ >>= fun p => fz l p.1 p.2 >>= fun p => liftO (dIter p.1) >>= fun ds => .ok (ds, p.2)) := by
  unfold iVal eF
  cases f ρ <;> rfl
@[simp] theorem x_iRg1 (fa : Ax) : iRg1 fa ρ = (fa ρ >>= fun p => pkL p.2 p.1 >>= fun ds => liftO (int1 ds) >>= fun j => .ok (rgD 0 j.toNat, p.2)) := (rfl)
@[simp] theorem x_iRg2 (fa : Ax) : iRg2 fa ρ = (fa ρ >>= fun p => pkL p.2 p.1 >>= fun ds => liftO (int2 ds) >>= fun j => .ok (rgD j.1 (j.2 - j.1).toNat, p.2)) := (rfl)
@[simp] theorem x_iEn (f : Ex) : iEn l f ρ = (f ρ >>= fun p => fz l p.1 p.2 >>= fun p => liftO (dSeq p.1) >>= fun ds => .ok (enD 0 ds, p.2)) := by
  unfold iEn eF
  cases f ρ <;> rfl
@[simp] theorem x_iZp (fa : Ax) : iZp l fa ρ = (aF l fa ρ >>= fun p => liftO (zip2 p.1) >>= fun ds => .ok (ds, p.2)) := (rfl)
@[simp] theorem x_sRaise (c : Str) : sRaise c ρ = .exc c ρ := (rfl)
@[simp] theorem x_eMl (i : Nat) (od : List D → List D → Option (D × List D)) (fa : Ax) : eMl l i od fa ρ = (match ownD ρ i with
  | some (.lst _) => aF l fa ρ >>= fun p => (match ownD p.2 i with
    | some (.lst ls) => liftO (od ls p.1) >>= fun q => .ok (.v q.1, putO p.2 i (.lst q.2))
    | _ => .stuck)
  | _ => .stuck) := (rfl)
@[simp] theorem x_ownD (i : Nat) : ownD ρ i = (match ρ[i]? with
  | some (some (.o d)) => some d
  | _ => none) := (rfl)
@[simp] theorem x_putO (i : Nat) (d : D) : putO ρ i d = ρ.set i (some (.o d)) := (rfl)
@[simp] theorem x_valD (i : Nat) : valD ρ i = (match ρ[i]? with
  | some (some (.v d)) => some d
  | _ => none) := (rfl)
@[simp] theorem x_sAug (i : Nat) (od : D → D → Option S) (f : Ex) : sAug l i od f ρ = (liftO (valD ρ i) >>= fun d1 => f ρ >>= fun p => PL.pk p.2 p.1 >>= fun d2 => liftO (od d1 d2) >>= fun s => if i ∈ l then .stuck else .ok (.next (p.2.set i (some s)))) := (rfl)
@[simp] theorem x_gSb (i : Nat) (fi : Ex) (v : D) : gSb i fi v ρ = (match ownD ρ i, fi ρ with
  | some _, .ok (s, ρ1) => (match PL.pk ρ1 s, ownD ρ1 i with
    | .ok k, some d => (dSet d k v).map fun d' => putO ρ1 i d'
    | _, _ => none)
  | _, _ => none) := (rfl)
/-! values -/
@[simp] theorem x_lt (i j : Int) : dLt (.int i) (.int j) = some (decide (i < j)) := (rfl)
@[simp] theorem x_le (i j : Int) : dLe (.int i) (.int j) = some (decide (i ≤ j)) := (rfl)
@[simp] theorem x_gt (i j : Int) : dGt (.int i) (.int j) = some (decide (j < i)) := (rfl)
@[simp] theorem x_ge (i j : Int) : dGe (.int i) (.int j) = some (decide (j ≤ i)) := (rfl)
@[simp] theorem x_add (i j : Int) : dAdd (.int i) (.int j) = some (.v (.int (i + j))) := (rfl)
@[simp] theorem x_addT (a b : List D) : dAdd (.tup a) (.tup b) = if a.length + b.length ≤ 16777216 then some (.v (.tup (a ++ b))) else none := (rfl)
@[simp] theorem x_sub (i j : Int) : dSub (.int i) (.int j) = some (.v (.int (i - j))) := (rfl)
@[simp] theorem x_mul (i j : Int) : dMul (.int i) (.int j) = if mulOk i j then some (.v (.int (i * j))) else none := (rfl)
theorem mulOk_l {a b : Int} (h : a.natAbs < 18446744073709551616) : mulOk a b := .inl h
theorem mulOk_r {a b : Int} (h : b.natAbs < 18446744073709551616) : mulOk a b := .inr (.inl h)
@[simp] theorem x_mod (i j : Int) : dMod (.int i) (.int j) = if 0 < j then some (.v (.int (i % j))) else if j ≠ 0 then some (.v (.int (i.fmod j))) else none := (rfl)
@[simp] theorem x_div (a b : Int) : dDiv (.int a) (.int b) = if 0 < b ∧ b.natAbs.log2 < 9000 then some (.v (.int (a / b))) else if b ≠ 0 ∧ b.natAbs < 1073741824 then some (.v (.int (a.fdiv b))) else none := (rfl)
@[simp] theorem x_neg (i : Int) : dNeg (.int i) = some (.v (.int (-i))) := (rfl)
@[simp] theorem x_isN (d : D) : dIs d .non = some (dIsNon d) := (rfl)
@[simp] theorem x_isB (d : D) (k : Bool) : dIs d (.bl k) = some (dIsBl k d) := (rfl)
@[simp] theorem x_isnN (d : D) : dIsNot d .non = some (!dIsNon d) := (rfl)
@[simp] theorem x_isnB (d : D) (k : Bool) : dIsNot d (.bl k) = some (!dIsBl k d) := (rfl)
@[simp] theorem x_isNon1 : dIsNon .non = true := (rfl)
@[simp] theorem x_isNon2 (b : Bool) : dIsNon (.bl b) = false := (rfl)
@[simp] theorem x_isNon3 (b : Int) : dIsNon (.int b) = false := (rfl)
@[simp] theorem x_isNon4 (b : Str) : dIsNon (.str b) = false := (rfl)
@[simp] theorem x_isNon5 (b : List D) : dIsNon (.tup b) = false := (rfl)
@[simp] theorem x_isNon6 (b : List D) : dIsNon (.lst b) = false := (rfl)
@[simp] theorem x_isBl1 (k : Bool) : dIsBl k .non = false := (rfl)
@[simp] theorem x_isBl2 (k b : Bool) : dIsBl k (.bl b) = (b == k) := (rfl)
@[simp] theorem x_isBl3 (k : Bool) (b : Int) : dIsBl k (.int b) = false := (rfl)
@[simp] theorem x_isBl4 (k : Bool) (b : Str) : dIsBl k (.str b) = false := (rfl)
@[simp] theorem x_isBl5 (k : Bool) (b : List D) : dIsBl k (.tup b) = false := (rfl)
@[simp] theorem x_isBl6 (k : Bool) (b : List D) : dIsBl k (.lst b) = false := (rfl)
@[simp] theorem x_truB (b : Bool) : dTru (.bl b) = some b := (rfl)
@[simp] theorem x_int1 (i : Int) : dInt1 [.int i] = some (.v (.int i)) := (rfl)
@[simp] theorem x_int1b (k : Bool) : dInt1 [.bl k] = some (.v (.int (if k then 1 else 0))) := (rfl)
@[simp] theorem x_abs (i : Int) : dAbs [.int i] = some (.v (.int (if i < 0 then -i else i))) := (rfl)
@[simp] theorem x_lenT (ds : List D) : dLen [.tup ds] = some (.v (.int ds.length)) := (rfl)
@[simp] theorem x_lenL (ds : List D) : dLen [.lst ds] = some (.v (.int ds.length)) := (rfl)
@[simp] theorem x_lenK (ds : List D) : dLen [.ktp ds] = some (.v (.int ds.length)) := (rfl)
@[simp] theorem x_lenS (ds : List Int) : dLen [.scr ds] = some (.v (.int ds.length)) := (rfl)
@[simp] theorem x_tupT (ds : List D) : dTup1 [.tup ds] = some (.v (.tup ds)) := (rfl)
@[simp] theorem x_tupL (ds : List D) : dTup1 [.lst ds] = some (.v (.tup ds)) := (rfl)
@[simp] theorem x_lstT (ds : List D) : dLst1 [.tup ds] = some (.o (.lst ds)) := (rfl)
@[simp] theorem x_lstL (ds : List D) : dLst1 [.lst ds] = some (.o (.lst ds)) := (rfl)
@[simp] theorem x_itT (ds : List D) : dIter (.tup ds) = some ds := (rfl)
@[simp] theorem x_itL (ds : List D) : dIter (.lst ds) = some ds := (rfl)
@[simp] theorem x_itK (ds : List D) : dIter (.ktp ds) = some ds := (rfl)
@[simp] theorem x_itS (ns : List Int) : dIter (.scr ns) = some (ns.map .int) := (rfl)
@[simp] theorem x_seqT (ds : List D) : dSeq (.tup ds) = some ds := (rfl)
@[simp] theorem x_seqL (ds : List D) : dSeq (.lst ds) = some ds := (rfl)
@[simp] theorem x_slT (ds : List D) (lo hi : Option Int) : dSl (.tup ds) lo hi = some (.v (.tup (cutG ds lo hi))) := (rfl)
@[simp] theorem x_slL (ds : List D) (lo hi : Option Int) : dSl (.lst ds) lo hi = some (.o (.lst (cutG ds lo hi))) := (rfl)
@[simp] theorem x_slS (ns : List Int) (lo hi : Option Int) : dSl (.scr ns) lo hi = some (.o (.lst ((cutG ns lo hi).map .int))) := (rfl)
@[simp] theorem x_ixT (ds : List D) (i : Int) : dIx (.tup ds) (.int i) = (atI ds i).map .v := (rfl)
@[simp] theorem x_ixL (ds : List D) (i : Int) : dIx (.lst ds) (.int i) = (atI ds i).map .v := (rfl)
@[simp] theorem x_append (ls : List D) (d : D) : mAppend ls [d] = if ls.length < 16777216 then some (.non, ls ++ [d]) else none := (rfl)
@[simp] theorem x_isT_int_non  : isT .int .non = some false := (rfl)
@[simp] theorem x_isT_int_bl (x : Bool) : isT .int (.bl x) = some true := (rfl)
@[simp] theorem x_isT_int_int (x : Int) : isT .int (.int x) = some true := (rfl)
@[simp] theorem x_isT_int_str (x : Str) : isT .int (.str x) = some false := (rfl)
@[simp] theorem x_isT_int_tup (x : List D) : isT .int (.tup x) = some false := (rfl)
@[simp] theorem x_isT_int_lst (x : List D) : isT .int (.lst x) = some false := (rfl)
@[simp] theorem x_isT_int_ktp (x : List D) : isT .int (.ktp x) = some false := (rfl)
@[simp] theorem x_isT_int_scr (x : List Int) : isT .int (.scr x) = some false := (rfl)
@[simp] theorem x_isT_bool_non  : isT .bool .non = some false := (rfl)
@[simp] theorem x_isT_bool_bl (x : Bool) : isT .bool (.bl x) = some true := (rfl)
@[simp] theorem x_isT_bool_int (x : Int) : isT .bool (.int x) = some false := (rfl)
@[simp] theorem x_isT_bool_str (x : Str) : isT .bool (.str x) = some false := (rfl)
@[simp] theorem x_isT_bool_tup (x : List D) : isT .bool (.tup x) = some false := (rfl)
@[simp] theorem x_isT_bool_lst (x : List D) : isT .bool (.lst x) = some false := (rfl)
@[simp] theorem x_isT_bool_ktp (x : List D) : isT .bool (.ktp x) = some false := (rfl)
@[simp] theorem x_isT_bool_scr (x : List Int) : isT .bool (.scr x) = some false := (rfl)
@[simp] theorem x_isT_str_non  : isT .str .non = some false := (rfl)
@[simp] theorem x_isT_str_bl (x : Bool) : isT .str (.bl x) = some false := (rfl)
@[simp] theorem x_isT_str_int (x : Int) : isT .str (.int x) = some false := (rfl)
@[simp] theorem x_isT_str_str (x : Str) : isT .str (.str x) = some true := (rfl)
@[simp] theorem x_isT_str_tup (x : List D) : isT .str (.tup x) = some false := (rfl)
@[simp] theorem x_isT_str_lst (x : List D) : isT .str (.lst x) = some false := (rfl)
@[simp] theorem x_isT_str_ktp (x : List D) : isT .str (.ktp x) = some false := (rfl)
@[simp] theorem x_isT_str_scr (x : List Int) : isT .str (.scr x) = some false := (rfl)
@[simp] theorem x_isT_tuple_non  : isT .tuple .non = some false := (rfl)
@[simp] theorem x_isT_tuple_bl (x : Bool) : isT .tuple (.bl x) = some false := (rfl)
@[simp] theorem x_isT_tuple_int (x : Int) : isT .tuple (.int x) = some false := (rfl)
@[simp] theorem x_isT_tuple_str (x : Str) : isT .tuple (.str x) = some false := (rfl)
@[simp] theorem x_isT_tuple_tup (x : List D) : isT .tuple (.tup x) = some true := (rfl)
@[simp] theorem x_isT_tuple_lst (x : List D) : isT .tuple (.lst x) = some false := (rfl)
@[simp] theorem x_isT_tuple_ktp (x : List D) : isT .tuple (.ktp x) = some true := (rfl)
@[simp] theorem x_isT_tuple_scr (x : List Int) : isT .tuple (.scr x) = some false := (rfl)
@[simp] theorem x_isT_list_non  : isT .list .non = some false := (rfl)
@[simp] theorem x_isT_list_bl (x : Bool) : isT .list (.bl x) = some false := (rfl)
@[simp] theorem x_isT_list_int (x : Int) : isT .list (.int x) = some false := (rfl)
@[simp] theorem x_isT_list_str (x : Str) : isT .list (.str x) = some false := (rfl)
@[simp] theorem x_isT_list_tup (x : List D) : isT .list (.tup x) = some false := (rfl)
@[simp] theorem x_isT_list_lst (x : List D) : isT .list (.lst x) = some true := (rfl)
@[simp] theorem x_isT_list_ktp (x : List D) : isT .list (.ktp x) = some false := (rfl)
@[simp] theorem x_isT_list_scr (x : List Int) : isT .list (.scr x) = some true := (rfl)
@[simp] theorem x_isT_dict_non  : isT .dict .non = some false := (rfl)
@[simp] theorem x_isT_dict_bl (x : Bool) : isT .dict (.bl x) = some false := (rfl)
@[simp] theorem x_isT_dict_int (x : Int) : isT .dict (.int x) = some false := (rfl)
@[simp] theorem x_isT_dict_str (x : Str) : isT .dict (.str x) = some false := (rfl)
@[simp] theorem x_isT_dict_tup (x : List D) : isT .dict (.tup x) = some false := (rfl)
@[simp] theorem x_isT_dict_lst (x : List D) : isT .dict (.lst x) = some false := (rfl)
@[simp] theorem x_isT_dict_ktp (x : List D) : isT .dict (.ktp x) = some false := (rfl)
@[simp] theorem x_isT_dict_scr (x : List Int) : isT .dict (.scr x) = some false := (rfl)
theorem x_eq_int (i j : Int) : eqD (.int i) (.int j) = decide (i = j) := by
  show (i == j) = decide (i = j)
  by_cases h : i = j <;> simp [h]
@[simp] theorem x_dEq_int (i j : Int) : dEq (.int i) (.int j) = some (decide (i = j)) := by
  unfold dEq
  rw [if_pos (show flatX (.int i) (.int j) = true from rfl), x_eq_int]
theorem x_eq_str (i j : Str) : eqD (.str i) (.str j) = decide (i = j) := by
  show (i == j) = decide (i = j)
  by_cases h : i = j <;> simp [h]
@[simp] theorem x_dEq_str (i j : Str) : dEq (.str i) (.str j) = some (decide (i = j)) := by
  unfold dEq
  rw [if_pos (show flatX (.str i) (.str j) = true from rfl), x_eq_str]
@[simp] theorem x_dNe (d e : D) : dNe d e = (dEq d e).map (!·) := (rfl)
/-! loops -/
/-- a loop none of whose turns leaves it: I by the items done -/
theorem lp_next {t : Gx} {f : Sx} (I : List D → Rho → Prop) : ∀ (rest done : List D) (ρ : Rho), I done ρ → (∀ dn d r ρ, done ++ rest = dn ++ d :: r → I dn ρ → ∃ ρ1, t d ρ = some ρ1 ∧ ∃ ρ', (f ρ1 = .ok (.next ρ') ∨ f ρ1 = .ok (.cnt ρ')) ∧ I (dn ++ [d]) ρ') →
    ∃ ρ', lp t f rest ρ = .ok (.next ρ') ∧ I (done ++ rest) ρ'
  | [], done, ρ, h, _ => ⟨ρ, rfl, by rw [List.append_nil]; exact h⟩
  | d :: rest, done, ρ, h, hs => by
    obtain ⟨ρ1, h1, ρ', h2, h3⟩ := hs done d rest ρ rfl h
    obtain ⟨ρ2, h4, h5⟩ := lp_next I rest (done ++ [d]) ρ' h3 fun dn d' r ρ e => hs dn d' r ρ (by rw [← e, List.append_assoc]; rfl)
    refine ⟨ρ2, ?_, by rw [List.append_assoc] at h5; exact h5⟩
    rw [x_lp1, h1]
    rcases h2 with h2 | h2
    · rw [liftO_some, bind_ok, h2, bind_ok, x_aft1, h4]
    · rw [liftO_some, bind_ok, h2, bind_ok, x_aft2, h4]
/-- a loop that goes on while p holds, and else hands back z -/
theorem lp_all {t : Gx} {f : Sx} (I : Rho → Prop) (p : D → Bool) (z : D) : ∀ (ds : List D) (ρ : Rho), I ρ → (∀ d ρ, d ∈ ds → I ρ → ∃ ρ1, t d ρ = some ρ1 ∧ ∃ ρ', f ρ1 = (if p d = true then .ok (.next ρ') else .ok (.ret (.v z) ρ')) ∧ I ρ') →
    ∃ ρ', lp t f ds ρ = (if ds.all p = true then .ok (.next ρ') else .ok (.ret (.v z) ρ')) ∧ I ρ'
  | [], ρ, h, _ => ⟨ρ, rfl, h⟩
  | d :: ds, ρ, h, hs => by
    obtain ⟨ρ1, h1, ρ', h2, h3⟩ := hs d ρ List.mem_cons_self h
    rw [x_lp1, h1]
    simp only [liftO_some, bind_ok, h2, List.all_cons]
    by_cases hp : p d = true
    · obtain ⟨ρ2, h4, h5⟩ := lp_all I p z ds ρ' h3 fun d' ρ hd => hs d' ρ (List.mem_cons_of_mem _ hd)
      refine ⟨ρ2, ?_, h5⟩
      rw [if_pos hp, bind_ok, x_aft1, h4]
      simp [hp]
    · refine ⟨ρ', ?_, h3⟩
      rw [if_neg hp, bind_ok, x_aft4]
      simp [hp]
end
/-! comprehensions -/
@[simp] theorem x_tsNo (ρ : Rho) : tsNo ρ = .ok (true, ρ) := (rfl)
@[simp] theorem x_nox {α : Type} (a : α) : nox (.ok a) = .ok a := (rfl)
theorem x_eLc (l vs : List Nat) (fi : Ix) (ft : Gx) (tt : Tx) (fe : Ex) (ρ : Rho) : eLc l vs fi ft tt fe ρ = (fi ρ >>= fun p => if (∀ i ∈ vs, i ∉ l) then nox (lcLp l vs ft tt fe p.1 (wipeE p.2 vs) []) >>= fun q => .ok (.o (.lst q.1), unwipe vs p.2 q.2) else .stuck) := (rfl)
/-- a comprehension whose turns leave the state as it was -/
theorem lc_eq {l vs : List Nat} {ft : Gx} {tt : Tx} {fe : Ex} {ρ0 : Rho} (c : D → Bool) (h : D → D) : ∀ (ds acc : List D), acc.length + ds.length ≤ 16777216 →
    (∀ d, d ∈ ds → ∃ ρ1 ρ2, ft d ρ0 = some ρ1 ∧ tt ρ1 = .ok (c d, ρ2) ∧ (if c d = true then ∃ ρ3, eF l fe ρ2 = .ok (h d, ρ3) ∧ wipeE ρ3 vs = ρ0 else wipeE ρ2 vs = ρ0)) →
    lcLp l vs ft tt fe ds ρ0 acc = .ok (acc ++ (ds.filter c).map h, ρ0)
  | [], acc, _, _ => by simp [lcLp]
  | d :: ds, acc, hl, hs => by
    obtain ⟨ρ1, ρ2, h1, h2, h3⟩ := hs d List.mem_cons_self
    have ih := fun acc' hl' => lc_eq (l := l) (vs := vs) (ft := ft) (tt := tt) (fe := fe) (ρ0 := ρ0) c h ds acc' hl' fun d' hd => hs d' (List.mem_cons_of_mem _ hd)
    rw [List.length_cons] at hl
    rw [lcLp, h1, liftO_some, bind_ok, h2, bind_ok]
    by_cases hc : c d = true
    · rw [if_pos hc] at h3
      obtain ⟨ρ3, h4, h5⟩ := h3
      rw [if_pos hc, h4, bind_ok, if_pos (by omega), h5, ih (acc ++ [h d]) (by rw [List.length_append, List.length_singleton]; omega)]
      rw [List.filter_cons_of_pos hc, List.map_cons, List.append_assoc]
      rfl
    · rw [if_neg hc] at h3
      rw [if_neg hc, h3, ih acc (by omega), List.filter_cons_of_neg hc]
theorem lc_map {l vs : List Nat} {ft : Gx} {fe : Ex} {ρ0 : Rho} (h : D → D) (ds : List D) (hl : ds.length ≤ 16777216)
    (hs : ∀ d, d ∈ ds → ∃ ρ1 ρ3, ft d ρ0 = some ρ1 ∧ eF l fe ρ1 = .ok (h d, ρ3) ∧ wipeE ρ3 vs = ρ0) : lcLp l vs ft tsNo fe ds ρ0 [] = .ok (ds.map h, ρ0) := by
  rw [lc_eq (fun _ => true) h ds [] (by simpa using hl) fun d hd => ?_]
  · rw [List.filter_eq_self.mpr (fun _ _ => rfl)]
    rfl
  · obtain ⟨ρ1, ρ3, h1, h2, h3⟩ := hs d hd
    exact ⟨ρ1, ρ1, h1, rfl, by rw [if_pos rfl]; exact ⟨ρ3, h2, h3⟩⟩
theorem x_bls : ∀ bs : List Bool, blsD (bs.map .bl) = some bs
  | [] => rfl
  | b :: bs => by rw [List.map_cons, blsD, x_bls bs]; rfl
theorem x_blsM {α : Type} (f : α → Bool) (xs : List α) : blsD (xs.map fun x => .bl (f x)) = some (xs.map f) := by
  rw [← x_bls (xs.map f), List.map_map]
  rfl
theorem x_ints : ∀ ns : List Int, intsD (ns.map .int) = some ns
  | [] => rfl
  | b :: bs => by rw [List.map_cons, intsD, x_ints bs]; rfl
@[simp] theorem x_wipe0 (ρ : Rho) : wipeE ρ [] = ρ := (rfl)
@[simp] theorem x_wipe1 (ρ : Rho) (v : Nat) (vs : List Nat) : wipeE ρ (v :: vs) = (wipeE ρ vs).set v none := (rfl)
@[simp] theorem x_unwipe0 (ρ ρ' : Rho) : unwipe [] ρ ρ' = ρ' := (rfl)
@[simp] theorem x_unwipe1 (ρ ρ' : Rho) (v : Nat) (vs : List Nat) : unwipe (v :: vs) ρ ρ' = (unwipe vs ρ ρ').set v (match ρ[v]? with
    | some (some (.v d)) => some (.v d)
    | _ => none) := (rfl)
@[simp] theorem x_allL (ds : List D) : dAll [.lst ds] = (blsD ds).map fun bs => .v (.bl (bs.all id)) := (rfl)
@[simp] theorem x_anyL (ds : List D) : dAny [.lst ds] = (blsD ds).map fun bs => .v (.bl (bs.any id)) := (rfl)
@[simp] theorem x_sumL (ds : List D) : dSum [.lst ds] = (intsD ds).map fun ns => .v (.int ns.sum) := (rfl)
/-! try -/
theorem x_sTry (need : Nat) (tab : List (Str × Bool)) (h : Hx) (f : Sx) (ρ : Rho) : sTry need tab h f ρ = (match f ρ with
  | .ok r => .ok r
  | .stuck => .stuck
  | .exc c ρ' => match look tab c with
    | some true => (match h c with
      | some d => if need ≤ ρ'.length then .ok (.ret (.v d) ρ') else .stuck
      | none => .stuck)
    | some false => .exc c ρ'
    | none => .stuck) := (rfl)
@[simp] theorem x_hC (d : D) (c : Str) : hC d c = some d := (rfl)
@[simp] theorem x_hIs (tab : List (Str × Bool)) (c : Str) : hIs tab c = (look tab c).map .bl := (rfl)
@[simp] theorem x_hAnd (h1 h2 : Hx) (c : Str) : hAnd h1 h2 c = (match h1 c with
  | some (.bl true) => h2 c
  | some (.bl false) => some (.bl false)
  | _ => none) := (rfl)
@[simp] theorem x_hNot (h1 : Hx) (c : Str) : hNot h1 c = (match h1 c with
  | some (.bl k) => some (.bl (!k))
  | _ => none) := (rfl)
/-! places -/
theorem atI_ofNat {α : Type} (xs : List α) (k : Nat) (x : α) (h : xs[k]? = some x) : L2.atI xs (k : Int) = some x := L2.atI_nat h
theorem atI_pos {α : Type} {xs : List α} {i : Int} (h0 : 0 ≤ i) : L2.atI xs i = xs[i.toNat]? := by
  unfold L2.atI L2.ixN
  rw [if_pos h0]
  split
  · rfl
  · rw [List.getElem?_eq_none (by omega)]; rfl
/-! values of the same shape -/
def dep : D → Nat := fun d => PyData.depth (toPy d)
/-! loops over a mapped list -/
theorem lp_foldM {α β : Type} {t : Gx} {f : Sx} {h : β → D} (st : α → Rho → Prop) (g : α → β → α) : ∀ (xs : List β) (a : α) (ρ : Rho), st a ρ →
    (∀ a x ρ, x ∈ xs → st a ρ → ∃ ρ1, t (h x) ρ = some ρ1 ∧ ∃ ρ', f ρ1 = .ok (.next ρ') ∧ st (g a x) ρ') → ∃ ρ', lp t f (xs.map h) ρ = .ok (.next ρ') ∧ st (xs.foldl g a) ρ'
  | [], a, ρ, h0, _ => ⟨ρ, rfl, h0⟩
  | x :: xs, a, ρ, h0, hs => by
    obtain ⟨ρ1, h1, ρ', h2, h3⟩ := hs a x ρ List.mem_cons_self h0
    obtain ⟨ρ2, h4, h5⟩ := lp_foldM (t := t) (f := f) (h := h) st g xs (g a x) ρ' h3 fun a y ρ hy => hs a y ρ (List.mem_cons_of_mem _ hy)
    refine ⟨ρ2, ?_, h5⟩
    rw [List.map_cons, x_lp1, h1, liftO_some, bind_ok, h2, bind_ok, x_aft1, h4]
theorem lp_invM {β : Type} {t : Gx} {f : Sx} {h : β → D} (I : Rho → Prop) (xs : List β) (ρ : Rho) (h0 : I ρ)
    (hs : ∀ x ρ, x ∈ xs → I ρ → ∃ ρ1, t (h x) ρ = some ρ1 ∧ ∃ ρ', f ρ1 = .ok (.next ρ') ∧ I ρ') : ∃ ρ', lp t f (xs.map h) ρ = .ok (.next ρ') ∧ I ρ' :=
  lp_foldM (fun (_ : Unit) ρ => I ρ) (fun _ _ => ()) xs () ρ h0 fun _ x ρ hx hi => hs x ρ hx hi
theorem lp_inv {t : Gx} {f : Sx} (I : Rho → Prop) (ds : List D) (ρ : Rho) (h0 : I ρ)
    (hs : ∀ x ρ, x ∈ ds → I ρ → ∃ ρ1, t x ρ = some ρ1 ∧ ∃ ρ', f ρ1 = .ok (.next ρ') ∧ I ρ') : ∃ ρ', lp t f ds ρ = .ok (.next ρ') ∧ I ρ' := by
  have := lp_invM (t := t) (f := f) (h := id) I ds ρ h0 hs
  rwa [List.map_id] at this
/-- by the turn: a is what stands behind i turns -/
theorem lp_numM {β : Type} {t : Gx} {f : Sx} {h : β → D} (xs : List β) (I : Nat → Rho → Prop) (ρ : Rho) (h0 : I 0 ρ)
    (hs : ∀ i x ρ, xs[i]? = some x → I i ρ → ∃ ρ1, t (h x) ρ = some ρ1 ∧ ∃ ρ', f ρ1 = .ok (.next ρ') ∧ I (i + 1) ρ') : ∃ ρ', lp t f (xs.map h) ρ = .ok (.next ρ') ∧ I xs.length ρ' := by
  have aux : ∀ (ys : List β) (k : Nat) (ρ : Rho), xs.drop k = ys → I k ρ → ∃ ρ', lp t f (ys.map h) ρ = .ok (.next ρ') ∧ I (k + ys.length) ρ' := fun ys => by
    induction ys with
    | nil => exact fun k ρ _ hk => ⟨ρ, rfl, hk⟩
    | cons y ys ih =>
      intro k ρ e hk
      have hy : xs[k]? = some y := by
        have := congrArg (fun l => l[0]?) e
        simpa using this
      obtain ⟨ρ1, h1, ρ', h2, h3⟩ := hs k y ρ hy hk
      obtain ⟨ρ2, h4, h5⟩ := ih (k + 1) ρ' (by rw [← List.drop_drop, e]; rfl) h3
      refine ⟨ρ2, ?_, by rw [List.length_cons, Nat.add_comm ys.length 1, ← Nat.add_assoc]; exact h5⟩
      rw [List.map_cons, x_lp1, h1, liftO_some, bind_ok, h2, bind_ok, x_aft1, h4]
  have := aux xs 0 ρ rfl h0
  rwa [Nat.zero_add] at this
theorem lp_allM {β : Type} {t : Gx} {f : Sx} {h : β → D} (I : Rho → Prop) (p : β → Bool) (z : D) : ∀ (xs : List β) (ρ : Rho), I ρ → (∀ x ρ, x ∈ xs → I ρ → ∃ ρ1, t (h x) ρ = some ρ1 ∧ ∃ ρ', f ρ1 = (if p x = true then .ok (.next ρ') else .ok (.ret (.v z) ρ')) ∧ I ρ') →
    ∃ ρ', lp t f (xs.map h) ρ = (if xs.all p = true then .ok (.next ρ') else .ok (.ret (.v z) ρ')) ∧ I ρ'
  | [], ρ, h0, _ => ⟨ρ, rfl, h0⟩
  | d :: ds, ρ, h0, hs => by
    obtain ⟨ρ1, h1, ρ', h2, h3⟩ := hs d ρ List.mem_cons_self h0
    rw [List.map_cons, x_lp1, h1]
    simp only [liftO_some, bind_ok, h2, List.all_cons]
    by_cases hp : p d = true
    · obtain ⟨ρ2, h4, h5⟩ := lp_allM (t := t) (f := f) (h := h) I p z ds ρ' h3 fun d' ρ hd => hs d' ρ (List.mem_cons_of_mem _ hd)
      refine ⟨ρ2, ?_, h5⟩
      rw [if_pos hp, bind_ok, x_aft1, h4]
      simp [hp]
    · refine ⟨ρ', ?_, h3⟩
      rw [if_neg hp, bind_ok, x_aft4]
      simp [hp]
/-- the reckoning raises c -/
def isX {α : Type} (r : Out α) (c : Str) : Prop := match r with
  | .exc c' _ => c' = c
  | _ => False
@[simp] theorem x_isX {α : Type} (c c' : Str) (ρ : Rho) : isX (Out.exc c ρ : Out α) c' = (c = c') := (rfl)
theorem isX_is {α : Type} {r : Out α} {c : Str} (h : isX r c) : ∃ ρ, r = .exc c ρ := by
  cases r with
  | ok a => exact h.elim
  | stuck => exact h.elim
  | exc c' ρ => cases (show c' = c from h); exact ⟨ρ, rfl⟩
theorem x_int2 (i j : Int) (h : -4611686018427387904 ≤ i ∧ i < 4611686018427387904 ∧ -4611686018427387904 ≤ j ∧ j < 4611686018427387904) : int2 [.int i, .int j] = some (i, j) := by
  unfold int2
  exact if_pos h
theorem x_int1' (j : Int) (h : -4611686018427387904 ≤ j ∧ j < 4611686018427387904) : PL.int1 [.int j] = some j := by
  unfold PL.int1
  exact if_pos h
/-- a loop that appends -/
theorem lp_acc {β : Type} {t : Gx} {f : Sx} {h : β → D} (St : List D → Rho → Prop) (p : β → Bool) (k : β → D) (N : Nat) : ∀ (xs : List β) (acc : List D) (ρ : Rho), acc.length + xs.length ≤ N → St acc ρ →
    (∀ x acc ρ, x ∈ xs → acc.length < N → St acc ρ → ∃ ρ1, t (h x) ρ = some ρ1 ∧ ∃ ρ', f ρ1 = .ok (.next ρ') ∧ St (if p x = true then acc ++ [k x] else acc) ρ') → ∃ ρ', lp t f (xs.map h) ρ = .ok (.next ρ') ∧ St (acc ++ (xs.filter p).map k) ρ'
  | [], acc, ρ, _, h0, _ => ⟨ρ, rfl, by simpa using h0⟩
  | x :: xs, acc, ρ, hN, h0, hs => by
    rw [List.length_cons] at hN
    obtain ⟨ρ1, h1, ρ', h2, h3⟩ := hs x acc ρ List.mem_cons_self (by omega) h0
    have hl : (if p x = true then acc ++ [k x] else acc).length + xs.length ≤ N := by
      split
      · rw [List.length_append, List.length_singleton]; omega
      · omega
    obtain ⟨ρ2, h4, h5⟩ := lp_acc (t := t) (f := f) (h := h) St p k N xs _ ρ' hl h3 fun y acc ρ hy => hs y acc ρ (List.mem_cons_of_mem _ hy)
    refine ⟨ρ2, ?_, ?_⟩
    · rw [List.map_cons, x_lp1, h1, liftO_some, bind_ok, h2, bind_ok, x_aft1, h4]
    · by_cases hp : p x = true
      · rw [if_pos hp] at h5
        rw [List.filter_cons_of_pos hp, List.map_cons]
        rw [List.append_assoc] at h5
        exact h5
      · rw [if_neg hp] at h5
        rw [List.filter_cons_of_neg hp]
        exact h5
theorem rg_zip {β : Type} (xs : List β) : rgD 0 xs.length = xs.zipIdx.map fun p => .int ((p.2 : Nat) : Int) := by
  apply List.ext_getElem?
  intro i
  unfold rgD
  rw [List.getElem?_map, List.getElem?_map, List.getElem?_zipIdx]
  by_cases hi : i < xs.length
  · rw [List.getElem?_range hi, List.getElem?_eq_getElem hi]
    simp
  · rw [List.getElem?_eq_none (by simpa using hi), List.getElem?_eq_none (by simpa using hi)]
    rfl
theorem en_zip {β : Type} (h : β → D) (xs : List β) : enD 0 (xs.map h) = xs.zipIdx.map fun p => .tup [.int ((p.2 : Nat) : Int), h p.1] := by
  apply List.ext_getElem?
  intro i
  rw [enD_get, List.getElem?_map, List.getElem?_map, List.getElem?_zipIdx]
  cases xs[i]? <;> rfl
theorem mem_zip {β : Type} {xs : List β} {p : β × Nat} (h : p ∈ xs.zipIdx) : xs[p.2]? = some p.1 := by
  rw [List.mem_zipIdx_iff_getElem?] at h
  exact h
theorem lc_eqM {β : Type} {l vs : List Nat} {ft : Gx} {tt : Tx} {fe : Ex} {ρ0 : Rho} {h0 : β → D} (c : β → Bool) (k : β → D) : ∀ (xs : List β) (acc : List D), acc.length + xs.length ≤ 16777216 →
    (∀ x, x ∈ xs → ∃ ρ1 ρ2, ft (h0 x) ρ0 = some ρ1 ∧ tt ρ1 = .ok (c x, ρ2) ∧ (c x = true → ∃ ρ3, eF l fe ρ2 = .ok (k x, ρ3) ∧ wipeE ρ3 vs = ρ0) ∧ (c x = false → wipeE ρ2 vs = ρ0)) →
    lcLp l vs ft tt fe (xs.map h0) ρ0 acc = .ok (acc ++ (xs.filter c).map k, ρ0)
  | [], acc, _, _ => by simp [lcLp]
  | d :: ds, acc, hl, hs => by
    obtain ⟨ρ1, ρ2, h1, h2, h3, h3'⟩ := hs d List.mem_cons_self
    have ih := fun acc' hl' => lc_eqM (l := l) (vs := vs) (ft := ft) (tt := tt) (fe := fe) (ρ0 := ρ0) (h0 := h0) c k ds acc' hl' fun d' hd => hs d' (List.mem_cons_of_mem _ hd)
    rw [List.length_cons] at hl
    rw [List.map_cons, lcLp, h1, liftO_some, bind_ok, h2, bind_ok]
    by_cases hc : c d = true
    · obtain ⟨ρ3, h4, h5⟩ := h3 hc
      rw [if_pos hc, h4, bind_ok, if_pos (by omega), h5, ih (acc ++ [k d]) (by rw [List.length_append, List.length_singleton]; omega)]
      rw [List.filter_cons_of_pos hc, List.map_cons, List.append_assoc]
      rfl
    · rw [if_neg hc, h3' (by simpa using hc), ih acc (by omega), List.filter_cons_of_neg hc]
theorem lc_mapM {β : Type} {l vs : List Nat} {ft : Gx} {fe : Ex} {ρ0 : Rho} {h0 : β → D} (k : β → D) (xs : List β) (hl : xs.length ≤ 16777216)
    (hs : ∀ x, x ∈ xs → ∃ ρ1 ρ3, ft (h0 x) ρ0 = some ρ1 ∧ eF l fe ρ1 = .ok (k x, ρ3) ∧ wipeE ρ3 vs = ρ0) : lcLp l vs ft tsNo fe (xs.map h0) ρ0 [] = .ok (xs.map k, ρ0) := by
  rw [lc_eqM (fun _ => true) k xs [] (by simpa using hl) fun d hd => ?_]
  · rw [List.filter_eq_self.mpr (fun _ _ => rfl)]
    rfl
  · obtain ⟨ρ1, ρ3, h1, h2, h3⟩ := hs d hd
    exact ⟨ρ1, ρ1, h1, rfl, fun _ => ⟨ρ3, h2, h3⟩, fun z => by cases z⟩
@[simp] theorem x_mulT (a : List D) (k : Int) : dMul (.tup a) (.int k) = if 0 < a.length ∧ a.length ≤ 1000 ∧ 2 ≤ k ∧ k ≤ 1000 then some (.v (.tup (List.replicate k.toNat a).flatten)) else none := (rfl)
@[simp] theorem x_mulLs (a : List D) (k : Int) : dMul (.lst a) (.int k) = if a.length * k.toNat ≤ 16777216 ∧ -9223372036854775808 ≤ k ∧ k < 9223372036854775808 then some (.o (.lst (List.replicate k.toNat a).flatten)) else none := (rfl)
@[simp] theorem x_min2 (i j : Int) : dMin [.int i, .int j] = some (.v (.int (if j < i then j else i))) := (rfl)
@[simp] theorem x_max2 (i j : Int) : dMax [.int i, .int j] = some (.v (.int (if j > i then j else i))) := (rfl)
theorem x_mulL {a b : Int} (h : a.natAbs < 18446744073709551616) : dMul (.int a) (.int b) = some (.v (.int (a * b))) := by rw [x_mul, if_pos (mulOk_l h)]
theorem x_mulR {a b : Int} (h : b.natAbs < 18446744073709551616) : dMul (.int a) (.int b) = some (.v (.int (a * b))) := by rw [x_mul, if_pos (mulOk_r h)]
end PL

/-! what the mirrors compute: dicts, texts, in-out calls -/
namespace PL
open PySem PySem.Spec PyProof.Rows L2
section
variable {ρ : Rho} {l : List Nat}
@[simp] theorem x_len1T (ds : List D) : dLen1 [.tup ds] = some (.v (.int ds.length)) := (rfl)
@[simp] theorem x_len1L (ds : List D) : dLen1 [.lst ds] = some (.v (.int ds.length)) := (rfl)
@[simp] theorem x_len1K (ds : List D) : dLen1 [.ktp ds] = some (.v (.int ds.length)) := (rfl)
@[simp] theorem x_len1S (ds : List Int) : dLen1 [.scr ds] = some (.v (.int ds.length)) := (rfl)
@[simp] theorem x_len1Z (z : Str) : dLen1 [.str z] = if z.length ≤ 16777216 then some (.v (.int z.length)) else none := (rfl)
@[simp] theorem x_len1D (kvs : List (D × D)) : dLen1 [.dic false kvs] = some (.v (.int kvs.length)) := (rfl)
@[simp] theorem x_dnew (t : Bool) : eDNew t ρ = .ok (.o (.dic t []), ρ) := (rfl)
@[simp] theorem x_get2 (fo fk fx : Ex) : eGet2 l fo fk fx ρ = (fo ρ >>= fun p => PL.pk p.2 p.1 >>= fun d0 => liftO (isDic d0) >>= fun _ => fk p.2 >>= fun q => (fx q.2 >>= fun r => fz l r.1 r.2) >>= fun r => PL.pk r.2 p.1 >>= fun d => PL.pk r.2 q.1 >>= fun k => liftO (dGet d k) >>= fun o => .ok (.v (o.getD r.1), r.2)) := (rfl)
@[simp] theorem x_get1 (fo fk : Ex) : eGet1 fo fk ρ = (fo ρ >>= fun p => PL.pk p.2 p.1 >>= fun d0 => liftO (isDic d0) >>= fun _ => fk p.2 >>= fun q => PL.pk q.2 p.1 >>= fun d => PL.pk q.2 q.1 >>= fun k => liftO (dGet d k) >>= fun o => .ok (.v (o.getD .non), q.2)) := (rfl)
@[simp] theorem x_isDic (t : Bool) (kvs : List (D × D)) : isDic (.dic t kvs) = some () := (rfl)
@[simp] theorem x_dGetS (kvs : List (D × D)) (z : Str) : dGet (.dic false kvs) (.str z) = some (gGet false kvs [.inr z]) := (rfl)
@[simp] theorem x_dGetI (kvs : List (D × D)) (i : Int) : dGet (.dic false kvs) (.int i) = some (gGet false kvs [.inl i]) := (rfl)
@[simp] theorem x_ixDS (kvs : List (D × D)) (z : Str) : dIx (.dic false kvs) (.str z) = (gGet false kvs [.inr z]).map .v := (rfl)
@[simp] theorem x_ixDI (kvs : List (D × D)) (i : Int) : dIx (.dic false kvs) (.int i) = (gGet false kvs [.inl i]).map .v := (rfl)
@[simp] theorem x_ixZ (z : Str) (i : Int) : dIx (.str z) (.int i) = if z.length ≤ 16777216 then (atI z.cps.toList i).map fun c => .v (.str ⟨#[c]⟩) else none := (rfl)
@[simp] theorem x_inDS (kvs : List (D × D)) (z : Str) : dIn (.str z) (.dic false kvs) = some (gGet false kvs [.inr z]).isSome := (rfl)
@[simp] theorem x_inDI (kvs : List (D × D)) (i : Int) : dIn (.int i) (.dic false kvs) = some (gGet false kvs [.inl i]).isSome := (rfl)
@[simp] theorem x_inZ (a b : Str) : dIn (.str a) (.str b) = some (strIn a b) := (rfl)
@[simp] theorem x_notin (a b : D) : dNotIn a b = (dIn a b).map (!·) := (rfl)
@[simp] theorem x_setDS (kvs : List (D × D)) (z : Str) (v : D) : dSet (.dic false kvs) (.str z) v = if kvs.length < 16777216 then some (.dic false (gPut false kvs [.inr z] (.str z) v)) else none := (rfl)
@[simp] theorem x_setDI (kvs : List (D × D)) (z : Int) (v : D) : dSet (.dic false kvs) (.int z) v = if kvs.length < 16777216 then some (.dic false (gPut false kvs [.inl z] (.int z) v)) else none := (rfl)
@[simp] theorem x_itD (t : Bool) (kvs : List (D × D)) : dIter (.dic t kvs) = some (kvs.map (·.1)) := (rfl)
@[simp] theorem x_itZ (z : Str) : dIter (.str z) = some (z.cps.toList.map fun c => .str ⟨#[c]⟩) := (rfl)
@[simp] theorem x_gcd (a b : Int) : dGcd [.int a, .int b] = some (.v (.int (Nat.gcd a.natAbs b.natAbs : Nat))) := (rfl)
@[simp] theorem x_revL (ds : List D) : dRev (.lst ds) = some (.o (.lst ds.reverse)) := (rfl)
@[simp] theorem x_extend (ls zs : List D) : mExtend ls [.lst zs] = if ls.length + zs.length ≤ 16777216 then some (.non, ls ++ zs) else none := (rfl)
@[simp] theorem x_join (fo fe : Ex) : eJoin fo fe ρ = (fo ρ >>= fun p => liftO (strS p.1) >>= fun a => fe p.2 >>= fun q => PL.pk q.2 q.1 >>= fun d => liftO (dJoin a d) >>= fun s => .ok (s, q.2)) := (rfl)
@[simp] theorem x_strS (a : Str) : strS (.v (.str a)) = some a := (rfl)
@[simp] theorem x_iDc (sel : D → Option (List D)) (f : Ex) : iDc l sel f ρ = (f ρ >>= fun p => fz l p.1 p.2 >>= fun p => liftO (sel p.1) >>= fun ds => .ok (ds, p.2)) := by
  unfold iDc eF
  cases f ρ <;> rfl
@[simp] theorem x_vals (kvs : List (D × D)) : dVals (.dic false kvs) = some (kvs.map (·.2)) := (rfl)
@[simp] theorem x_items (kvs : List (D × D)) : dItems (.dic false kvs) = some (kvs.map fun p => .tup [p.1, p.2]) := (rfl)
@[simp] theorem x_iRg3 (fa : Ax) : iRg3 fa ρ = (fa ρ >>= fun p => pkL p.2 p.1 >>= fun ds => liftO (int3 ds) >>= fun j => .ok (rg3D j.1 j.2.2 (rgN j.1 j.2.1 j.2.2), p.2)) := (rfl)
/-! ### sorted -/
theorem strsD_map : ∀ zs : List Str, strsD (zs.map .str) = some zs
  | [] => rfl
  | z :: zs => by rw [List.map_cons]; unfold strsD; rw [strsD_map zs]; rfl
theorem intsD_map : ∀ zs : List Int, intsD (zs.map .int) = some zs
  | [] => rfl
  | z :: zs => by rw [List.map_cons]; unfold intsD; rw [intsD_map zs]; rfl
theorem x_srtI (zs : List Int) : dSrt [.lst (zs.map .int)] = some (.o (.lst ((srtI zs).map .int))) := by
  simp only [dSrt, intsD_map]
theorem x_srtS (zs : List Str) (h : zs.length < 64) : dSrt [.lst (zs.map .str)] = some (.o (.lst ((srtS zs).map .str))) := by
  cases zs with
  | nil => simp [dSrt, intsD, srtI, srtS]
  | cons z zs =>
    have e : intsD ((z :: zs).map D.str) = none := rfl
    simp only [dSrt, e, strsD_map]
    rw [if_pos h]
theorem x_srtDS {kvs : List (D × D)} {zs : List Str} (e : kvs.map (·.1) = zs.map .str) (h : zs.length < 64) : dSrt [.dic false kvs] = some (.o (.lst ((srtS zs).map .str))) := by
  simp only [dSrt, e, strsD_map]
  rw [if_pos h]
/-! ### dicts -/
theorem kOfS (z : Str) : kOf false (.str z) = some [.inr z] := rfl
theorem gGet_put {kvs : List (D × D)} {k k' : List Key} {kd v : D} (h : kOf false kd = some k) : gGet false (gPut false kvs k kd v) k' = if k' = k then some v else gGet false kvs k' := by
  unfold gPut
  split
  · rename_i hs
    by_cases e : k' = k
    · subst e
      rw [if_pos rfl]
      induction kvs with
      | nil => simp [gGet] at hs
      | cons p r ih =>
        rw [List.map_cons]
        by_cases e2 : kOf false p.1 = some k'
        · rw [if_pos e2, gGet_pos (by exact e2)]
        · rw [if_neg e2, gGet_neg e2]
          rw [gGet_neg e2] at hs
          exact ih hs
    · rw [if_neg e]
      clear hs
      induction kvs with
      | nil => rfl
      | cons p r ih =>
        rw [List.map_cons]
        by_cases e2 : kOf false p.1 = some k
        · rw [if_pos e2]
          have e3 : ¬ kOf false p.1 = some k' := fun z => e (by rw [e2] at z; exact (Option.some.inj z).symm)
          rw [gGet_neg (by exact e3), gGet_neg e3]
          exact ih
        · rw [if_neg e2]
          by_cases e3 : kOf false p.1 = some k'
          · rw [gGet_pos e3, gGet_pos e3]
          · rw [gGet_neg e3, gGet_neg e3]
            exact ih
  · rename_i hs
    induction kvs with
    | nil =>
      rw [List.nil_append]
      by_cases e : k' = k
      · subst e; rw [if_pos rfl, gGet_pos h]
      · rw [if_neg e, gGet_neg (by rw [h]; simpa using fun z => e z.symm)]
    | cons p r ih =>
      rw [List.cons_append]
      by_cases e2 : kOf false p.1 = some k
      · rw [gGet_pos e2] at hs; simp at hs
      · rw [gGet_neg e2] at hs
        by_cases e3 : kOf false p.1 = some k'
        · have e : ¬ k' = k := fun z => e2 (by rw [e3, z])
          rw [if_neg e, gGet_pos e3, gGet_pos e3]
        · rw [gGet_neg e3, gGet_neg e3]
          exact ih hs
theorem gPut_keys {kvs : List (D × D)} {k : List Key} {kd v : D} : (gPut false kvs k kd v).map (·.1) = if (gGet false kvs k).isSome = true then kvs.map (·.1) else kvs.map (·.1) ++ [kd] := by
  unfold gPut
  split
  · rw [List.map_map]
    refine List.map_congr_left fun p _ => ?_
    simp only [Function.comp]
    split <;> rfl
  · rw [List.map_append]; rfl
end
end PL

/-! the defs of kinds that many laws share -/
namespace Std
open PL PySem
def noD : D → Bool
  | .dic _ _ => false | .non => true | .bl _ => true | .int _ => true | .str _ => true | .tup _ => true | .lst _ => true | .scr _ => true | .ktp _ => true
def isW : D → Bool
  | .int _ => true
  | _ => false
def isWin (lo hi : Int) : D → Bool
  | .int i => decide (lo ≤ i) && decide (i ≤ hi)
  | _ => false
def isTup (lo hi : Int) : D → Bool
  | .tup ds => decide (lo ≤ ds.length) && decide (ds.length ≤ hi)
  | .ktp ds => decide (lo ≤ ds.length) && decide (ds.length ≤ hi)
  | _ => false
@[simp] theorem noD_non  : noD .non = true := (rfl)
@[simp] theorem isW_non  : isW .non = false := (rfl)
@[simp] theorem isWin_non (lo hi : Int)  : isWin lo hi .non = false := (rfl)
@[simp] theorem isTup_non (lo hi : Int)  : isTup lo hi .non = false := (rfl)
@[simp] theorem noD_bl (x : Bool) : noD (.bl x) = true := (rfl)
@[simp] theorem isW_bl (x : Bool) : isW (.bl x) = false := (rfl)
@[simp] theorem isWin_bl (lo hi : Int) (x : Bool) : isWin lo hi (.bl x) = false := (rfl)
@[simp] theorem isTup_bl (lo hi : Int) (x : Bool) : isTup lo hi (.bl x) = false := (rfl)
@[simp] theorem noD_int (x : Int) : noD (.int x) = true := (rfl)
@[simp] theorem isW_int (x : Int) : isW (.int x) = true := (rfl)
@[simp] theorem isWin_int (lo hi : Int) (x : Int) : isWin lo hi (.int x) = (decide (lo ≤ x) && decide (x ≤ hi)) := (rfl)
@[simp] theorem isTup_int (lo hi : Int) (x : Int) : isTup lo hi (.int x) = false := (rfl)
@[simp] theorem noD_str (x : Str) : noD (.str x) = true := (rfl)
@[simp] theorem isW_str (x : Str) : isW (.str x) = false := (rfl)
@[simp] theorem isWin_str (lo hi : Int) (x : Str) : isWin lo hi (.str x) = false := (rfl)
@[simp] theorem isTup_str (lo hi : Int) (x : Str) : isTup lo hi (.str x) = false := (rfl)
@[simp] theorem noD_tup (x : List D) : noD (.tup x) = true := (rfl)
@[simp] theorem isW_tup (x : List D) : isW (.tup x) = false := (rfl)
@[simp] theorem isWin_tup (lo hi : Int) (x : List D) : isWin lo hi (.tup x) = false := (rfl)
@[simp] theorem isTup_tup (lo hi : Int) (x : List D) : isTup lo hi (.tup x) = (decide (lo ≤ x.length) && decide (x.length ≤ hi)) := (rfl)
@[simp] theorem noD_lst (x : List D) : noD (.lst x) = true := (rfl)
@[simp] theorem isW_lst (x : List D) : isW (.lst x) = false := (rfl)
@[simp] theorem isWin_lst (lo hi : Int) (x : List D) : isWin lo hi (.lst x) = false := (rfl)
@[simp] theorem isTup_lst (lo hi : Int) (x : List D) : isTup lo hi (.lst x) = false := (rfl)
@[simp] theorem noD_scr (x : List Int) : noD (.scr x) = true := (rfl)
@[simp] theorem isW_scr (x : List Int) : isW (.scr x) = false := (rfl)
@[simp] theorem isWin_scr (lo hi : Int) (x : List Int) : isWin lo hi (.scr x) = false := (rfl)
@[simp] theorem isTup_scr (lo hi : Int) (x : List Int) : isTup lo hi (.scr x) = false := (rfl)
@[simp] theorem noD_ktp (x : List D) : noD (.ktp x) = true := (rfl)
@[simp] theorem isW_ktp (x : List D) : isW (.ktp x) = false := (rfl)
@[simp] theorem isWin_ktp (lo hi : Int) (x : List D) : isWin lo hi (.ktp x) = false := (rfl)
@[simp] theorem isTup_ktp (lo hi : Int) (x : List D) : isTup lo hi (.ktp x) = (decide (lo ≤ x.length) && decide (x.length ≤ hi)) := (rfl)
@[simp] theorem noD_dic (t : Bool) (k : List (D × D)) : noD (.dic t k) = false := (rfl)
def b_is_tuple_of : Sx := sRet [] (eAnd (bE (tIsi (isT .tuple) (eVar 0))) (bE (tCh dLe dLe (eVar 1) (eB dLen1 (aCons (eVar 0) (aNil))) (eVar 2))))
def m_is_tuple_of : Fn := runF 0 b_is_tuple_of
def b_is_whole : Sx := sRet [] (eAnd (bE (tIsi (isT .int) (eVar 0))) (eNot (bE (tIsi (isT .bool) (eVar 0)))))
def m_is_whole : Fn := runF 0 b_is_whole
def b_is_whole_in : Sx := sRet [] (eAnd (eCall [] 1 m_is_whole (aCons (eVar 0) (aNil))) (bE (tCh dLe dLe (eVar 1) (eVar 0) (eVar 2))))
def m_is_whole_in : Fn := runF 0 b_is_whole_in
theorem s_is_whole (d : D) (h : noD d = true) : m_is_whole [d] = .ok (.v (.bl (isW d))) := by
  cases d <;> first | (simp at h; done) | simp [m_is_whole, b_is_whole]
theorem s_is_whole_in (d : D) (lo hi : Int) (h : noD d = true) : m_is_whole_in [d, .int lo, .int hi] = .ok (.v (.bl (isWin lo hi d))) := by
  cases d <;> first | (simp at h; done) | simp [m_is_whole_in, b_is_whole_in, s_is_whole]
  all_goals (split <;> simp_all <;> omega)
theorem s_is_tuple_of (d : D) (lo hi : Int) (h : noD d = true) : m_is_tuple_of [d, .int lo, .int hi] = .ok (.v (.bl (isTup lo hi d))) := by
  cases d <;> first | (simp at h; done) | simp [m_is_tuple_of, b_is_tuple_of]
  all_goals (split <;> simp_all <;> omega)
end Std

namespace Std
open PL PySem
def c_LETTERS : D := .str "abcdefghijklmnopqrstuvwxyz"
def c_DIGITS : D := .str "0123456789"
def b_is_name_f1 : Sx := sIf (tAnd (t2 dNotIn (eVar 1) (eC c_LETTERS)) (t2 dNotIn (eVar 1) (eC c_DIGITS))) (sRet [] (eC (.bl false))) (sNil)
def b_is_name : Sx := sSeq (sIf (tNot (tIsi (isT .str) (eVar 0))) (sRet [] (eC (.bl false))) (sNil)) (sSeq (sIf (tOr (t2 dLt (eB dLen1 (aCons (eVar 0) (aNil))) (eC (.int 1))) (t2 dGt (eB dLen1 (aCons (eVar 0) (aNil))) (eC (.int 8)))) (sRet [] (eC (.bl false))) (sNil)) (sSeq (sIf (t2 dNotIn (e2 dIx (eVar 0) (eC (.int 0))) (eC c_LETTERS)) (sRet [] (eC (.bl false))) (sNil)) (sSeq (sFor (iVal [] (eVar 0)) (gNm [] 1) b_is_name_f1) (sRet [] (eC (.bl true))))))
def m_is_name : Fn := runF 1 b_is_name
def isLet (c : Nat) : Bool := strIn ⟨#[c]⟩ "abcdefghijklmnopqrstuvwxyz"
def isDig (c : Nat) : Bool := strIn ⟨#[c]⟩ "0123456789"
def nameB (z : Str) : Bool := decide (1 ≤ z.length ∧ z.length ≤ 8) && (match z.cps.toList with
  | [] => false
  | c :: _ => isLet c) && z.cps.toList.all fun c => isLet c || isDig c
def isNm : D → Bool
  | .str z => nameB z
  | _ => false
theorem s_is_nameS (z : Str) (hz : z.length ≤ 16777216) : m_is_name [.str z] = .ok (.v (.bl (nameB z))) := by
  obtain ⟨⟨l⟩⟩ := z
  have hlen : (Str.mk ⟨l⟩).length = l.length := rfl
  by_cases h1 : 1 ≤ l.length ∧ l.length ≤ 8
  · cases l with
    | nil => simp at h1
    | cons c l =>
      have g : L2.atI (c :: l) 0 = some c := atI_ofNat (c :: l) 0 c rfl
      obtain ⟨ρ', e1, _⟩ := lp_allM (t := gNm [] 1) (f := b_is_name_f1) (h := fun c : Nat => D.str ⟨#[c]⟩) (fun ρ => ∃ x, ρ = [some (.v (.str ⟨⟨c :: l⟩⟩)), x]) (fun c => isLet c || isDig c) (.bl false) (c :: l) [some (.v (.str ⟨⟨c :: l⟩⟩)), none] ⟨none, rfl⟩ (fun x ρ _ ⟨y, e⟩ => by
        subst e
        refine ⟨_, rfl, [some (.v (.str ⟨⟨c :: l⟩⟩)), some (.v (.str ⟨#[x]⟩))], ?_, _, rfl⟩
        cases ha : isLet x <;> cases hb : isDig x <;> (unfold isLet at ha; unfold isDig at hb; simp [b_is_name_f1, c_LETTERS, c_DIGITS, ha, hb]))
      have l1 : ¬ ((l.length : Int) + 1 < 1) := by omega
      have l2 : ¬ ((8 : Int) < (l.length : Int) + 1) := by simp at h1; omega
      have l3 : l.length + 1 ≤ 16777216 := by simp at h1; omega
      cases hc : isLet c with
      | false =>
        have hn : nameB ⟨⟨c :: l⟩⟩ = false := by simp [nameB, hc]
        rw [hn]
        unfold isLet at hc
        simp [m_is_name, b_is_name, c_LETTERS, c_DIGITS, hlen, l1, l2, l3, g, hc]
      | true =>
        have hn : nameB ⟨⟨c :: l⟩⟩ = ((c :: l).all fun c => isLet c || isDig c) := by
          have h2 : 1 ≤ (Str.mk ⟨c :: l⟩).length ∧ (Str.mk ⟨c :: l⟩).length ≤ 8 := h1
          simp [nameB, hc, h2]
        rw [hn]
        unfold isLet at hc
        simp [m_is_name, b_is_name, c_LETTERS, c_DIGITS, hlen, l1, l2, l3, g, hc]
        simp only [List.map_cons] at e1
        rw [e1]
        show _ = Out.ok (S.v (D.bl ((c :: l).all fun c => isLet c || isDig c)))
        cases ((c :: l).all fun c => isLet c || isDig c) <;> simp
  · have hn : nameB ⟨⟨l⟩⟩ = false := by
      have : ¬ (1 ≤ (Str.mk ⟨l⟩).length ∧ (Str.mk ⟨l⟩).length ≤ 8) := h1
      simp [nameB, this]
    rw [hn]
    have hl : l.length ≤ 16777216 := hz
    by_cases h2 : l.length < 1
    · have : (l.length : Int) < 1 := by omega
      simp [m_is_name, b_is_name, hlen, hl, this]
    · have h3 : ¬ (l.length : Int) < 1 := by omega
      have h4 : (8 : Int) < l.length := by omega
      simp [m_is_name, b_is_name, hlen, hl, h3, h4]
theorem s_is_name0 (d : D) (h : noD d = true) (hd : isT .str d = some false) : m_is_name [d] = .ok (.v (.bl false)) := by
  simp [m_is_name, b_is_name, hd]
theorem joinL_one : ∀ cs : List Nat, TL.joinL [] (cs.map fun c => [c]) = cs
  | [] => rfl
  | [c] => rfl
  | c :: d :: cs => by
    have ih := joinL_one (d :: cs)
    rw [List.map_cons] at ih
    rw [List.map_cons, List.map_cons, TL.joinL, ih]
    rfl
theorem join_one (cs : List Nat) : Txt.join "" (cs.map fun c => (⟨#[c]⟩ : Str)) = ⟨cs.toArray⟩ := by
  have h := SX.join_S [] (cs.map fun c => [c])
  rw [List.map_map, joinL_one] at h
  exact h
/-- the texts of small letters and digits that begin with a letter -/
def letC (c : Nat) : Bool := decide (97 ≤ c ∧ c ≤ 122)
def digC (c : Nat) : Bool := decide (48 ≤ c ∧ c ≤ 57)
theorem isLet_of {c : Nat} (h : letC c = true) : isLet c = true := by
  have h : 97 ≤ c ∧ c ≤ 122 := by simpa [letC] using h
  have key : ∀ k, k < 26 → isLet (97 + k) = true := by decide +kernel
  have := key (c - 97) (by omega)
  rwa [show 97 + (c - 97) = c by omega] at this
theorem isDig_of {c : Nat} (h : digC c = true) : isDig c = true := by
  have h : 48 ≤ c ∧ c ≤ 57 := by simpa [digC] using h
  have key : ∀ k, k < 10 → isDig (48 + k) = true := by decide +kernel
  have := key (c - 48) (by omega)
  rwa [show 48 + (c - 48) = c by omega] at this
def Nam (z : Str) : Prop := ∃ c cs, z = ⟨(c :: cs).toArray⟩ ∧ letC c = true ∧ cs.length ≤ 7 ∧ ∀ d ∈ cs, letC d = true ∨ digC d = true
theorem Nam.nameB {z : Str} (h : Nam z) : nameB z = true := by
  obtain ⟨c, cs, rfl, h1, h2, h3⟩ := h
  have hl : 1 ≤ (Str.mk (c :: cs).toArray).length ∧ (Str.mk (c :: cs).toArray).length ≤ 8 := by
    show 1 ≤ (c :: cs).length ∧ (c :: cs).length ≤ 8
    rw [List.length_cons]; omega
  unfold Std.nameB
  simp only [hl, isLet_of h1, decide_true, Bool.true_and, and_self, List.all_eq_true, Bool.or_eq_true]
  intro d hd
  rcases List.mem_cons.mp hd with e | hd
  · subst e; exact .inl (isLet_of h1)
  · rcases h3 d hd with h | h
    · exact .inl (isLet_of h)
    · exact .inr (isDig_of h)
theorem Nam.len {z : Str} (h : Nam z) : z.length ≤ 8 := by
  obtain ⟨c, cs, rfl, h1, h2, h3⟩ := h
  show (c :: cs).length ≤ 8
  rw [List.length_cons]; omega
theorem Nam.is {z : Str} (h : Nam z) : m_is_name [.str z] = .ok (.v (.bl true)) := by
  rw [s_is_nameS z (by have := h.len; omega), h.nameB]
end Std

/-! rules for loops and comprehensions where they stand in a goal -/
namespace PL
open PySem PySem.Spec PyProof.Rows L2
section
variable {α β : Type}
@[simp] theorem bnd_assoc {γ δ : Type} (k2 : γ → Out δ) (w2 : Wit k2) (k : β → Out γ) (w : Wit k) (r : Out β) : bnd k2 w2 (bnd k w r) = bnd (fun a => bnd k2 () (k a)) () r := by
  cases r <;> rfl
theorem bnd_ite {γ : Type} (k : β → Out γ) (w : Wit k) (c : Prop) [Decidable c] (a b : Out β) : bnd k w (if c then a else b) = if c then bnd k w a else bnd k w b := by
  split <;> rfl
/-- what a turn of a loop ends in: on with J, or out to k -/
def Aft (J : Rho → Prop) (k : Fl → Out α) (P : Out α → Prop) : Out Fl → Prop
  | .ok (.next ρ) => J ρ
  | .ok (.cnt ρ) => J ρ
  | .ok (.brk ρ) => P (k (.next ρ))
  | .ok (.ret s ρ) => P (k (.ret s ρ))
  | .exc c ρ => P (.exc c ρ)
  | .stuck => False
section
variable {J : Rho → Prop} {k : Fl → Out α} {P : Out α → Prop} {ρ : Rho}
@[simp] theorem aft_next : Aft J k P (.ok (.next ρ)) = J ρ := (rfl)
@[simp] theorem aft_cnt : Aft J k P (.ok (.cnt ρ)) = J ρ := (rfl)
@[simp] theorem aft_brk : Aft J k P (.ok (.brk ρ)) = P (k (.next ρ)) := (rfl)
@[simp] theorem aft_ret (s : S) : Aft J k P (.ok (.ret s ρ)) = P (k (.ret s ρ)) := (rfl)
@[simp] theorem aft_exc (c : Str) : Aft J k P (.exc c ρ) = P (.exc c ρ) := (rfl)
@[simp] theorem aft_stuck : Aft J k P .stuck = False := (rfl)
@[simp] theorem aft_ite (c : Prop) [Decidable c] (a b : Out Fl) : Aft J k P (if c then a else b) = if c then Aft J k P a else Aft J k P b := by
  split <;> rfl
end
@[simp] theorem aft_lp {J : Rho → Prop} {k : Fl → Out α} {P : Out α → Prop} (t : Gx) (f : Sx) (ds : List D) (ρ : Rho) : Aft J k P (lp t f ds ρ) = Aft J k P (bnd (fun a => .ok a) () (lp t f ds ρ)) := by
  cases lp t f ds ρ <;> rfl
@[simp] theorem isX_lp (t : Gx) (f : Sx) (ds : List D) (ρ : Rho) (c : Str) : isX (lp t f ds ρ) c = isX (bnd (fun a => .ok a) () (lp t f ds ρ)) c := by
  cases lp t f ds ρ <;> rfl
def Turn (t : Gx) (f : Sx) (d : D) (ρ : Rho) (J : Rho → Prop) (k : Fl → Out α) (P : Out α → Prop) : Prop := Aft J k P (bnd f () (liftO (t d ρ)))
@[simp] theorem x_turn (t : Gx) (f : Sx) (d : D) (ρ : Rho) (J : Rho → Prop) (k : Fl → Out α) (P : Out α → Prop) : Turn t f d ρ J k P = Aft J k P (bnd f () (liftO (t d ρ))) := (rfl)
theorem lp_P {t : Gx} {f : Sx} {h : β → D} {k : Fl → Out α} {w : Wit k} {P : Out α → Prop} {ds : List D} {ρ : Rho} (xs : List β) (J : Nat → Rho → Prop) (hd : ds = xs.map h) (h0 : J 0 ρ)
    (hs : ∀ i x ρ, xs[i]? = some x → J i ρ → Turn t f (h x) ρ (J (i + 1)) k P) (he : ∀ ρ, J xs.length ρ → P (k (.next ρ))) : P (bnd k w (lp t f ds ρ)) := by
  subst hd
  have aux : ∀ (ys : List β) (n : Nat) (ρ : Rho), xs.drop n = ys → n + ys.length = xs.length → J n ρ → P (bnd k w (lp t f (ys.map h) ρ)) := fun ys => by
    induction ys with
    | nil => intro n ρ _ hl hj; exact he ρ (by rw [← hl]; exact hj)
    | cons y ys ih =>
      intro n ρ e hl hj
      have hy : xs[n]? = some y := by
        have := congrArg (fun l => l[0]?) e
        simpa using this
      have s := hs n y ρ hy hj
      have e' : xs.drop (n + 1) = ys := by rw [← List.drop_drop, e]; rfl
      have ih' := fun ρ' => ih (n + 1) ρ' e' (by rw [List.length_cons] at hl; omega)
      rw [List.map_cons, x_lp1]
      unfold Turn at s
      have e0 : (liftO (t (h y) ρ) >>= fun ρ1 => f ρ1 >>= aft (lp t f (ys.map h))) = (bnd f () (liftO (t (h y) ρ)) >>= aft (lp t f (ys.map h))) := by
        cases liftO (t (h y) ρ) <;> rfl
      rw [e0]
      revert s
      generalize bnd f () (liftO (t (h y) ρ)) = r
      intro s
      cases r with
      | stuck => exact s.elim
      | exc c ρ' => exact s
      | ok fl =>
        cases fl with
        | next ρ' => exact ih' ρ' s
        | cnt ρ' => exact ih' ρ' s
        | brk ρ' => exact s
        | ret z ρ' => exact s
  exact aux xs 0 ρ rfl (by omega) h0
theorem lp_eq {t : Gx} {f : Sx} {h : β → D} {k : Fl → Out α} {w : Wit k} {o : Out α} {ds : List D} {ρ : Rho} (xs : List β) (J : Nat → Rho → Prop) (hd : ds = xs.map h) (h0 : J 0 ρ)
    (hs : ∀ i x ρ, xs[i]? = some x → J i ρ → Turn t f (h x) ρ (J (i + 1)) k (· = o)) (he : ∀ ρ, J xs.length ρ → k (.next ρ) = o) : bnd k w (lp t f ds ρ) = o := lp_P (P := (· = o)) xs J hd h0 hs he
theorem lp_x {t : Gx} {f : Sx} {h : β → D} {k : Fl → Out α} {w : Wit k} {c : Str} {ds : List D} {ρ : Rho} (xs : List β) (J : Nat → Rho → Prop) (hd : ds = xs.map h) (h0 : J 0 ρ)
    (hs : ∀ i x ρ, xs[i]? = some x → J i ρ → Turn t f (h x) ρ (J (i + 1)) k (isX · c)) (he : ∀ ρ, J xs.length ρ → isX (k (.next ρ)) c) : isX (bnd k w (lp t f ds ρ)) c := lp_P (P := (isX · c)) xs J hd h0 hs he
/-- over a range -/
theorem rg_P {t : Gx} {f : Sx} {k : Fl → Out α} {w : Wit k} {P : Out α → Prop} {lo : Int} {n : Nat} {ρ : Rho} (J : Nat → Rho → Prop) (h0 : J 0 ρ)
    (hs : ∀ i ρ, i < n → J i ρ → Turn t f (.int (lo + (i : Nat))) ρ (J (i + 1)) k P) (he : ∀ ρ, J n ρ → P (k (.next ρ))) : P (bnd k w (lp t f (rgD lo n) ρ)) := by
  refine lp_P (h := fun i : Nat => D.int (lo + (i : Nat))) (List.range n) J rfl h0 (fun i x ρ hx hj => ?_) (by rw [List.length_range]; exact he)
  obtain ⟨hi, e⟩ := List.getElem?_eq_some_iff.mp hx
  rw [List.getElem_range] at e
  subst e
  exact hs i ρ (by simpa using hi) hj
theorem rg_eq {t : Gx} {f : Sx} {k : Fl → Out α} {w : Wit k} {o : Out α} {lo : Int} {n : Nat} {ρ : Rho} (J : Nat → Rho → Prop) (h0 : J 0 ρ)
    (hs : ∀ i ρ, i < n → J i ρ → Turn t f (.int (lo + (i : Nat))) ρ (J (i + 1)) k (· = o)) (he : ∀ ρ, J n ρ → k (.next ρ) = o) : bnd k w (lp t f (rgD lo n) ρ) = o := rg_P (P := (· = o)) J h0 hs he
theorem rg_x {t : Gx} {f : Sx} {k : Fl → Out α} {w : Wit k} {c : Str} {lo : Int} {n : Nat} {ρ : Rho} (J : Nat → Rho → Prop) (h0 : J 0 ρ)
    (hs : ∀ i ρ, i < n → J i ρ → Turn t f (.int (lo + (i : Nat))) ρ (J (i + 1)) k (isX · c)) (he : ∀ ρ, J n ρ → isX (k (.next ρ)) c) : isX (bnd k w (lp t f (rgD lo n) ρ)) c := rg_P (P := (isX · c)) J h0 hs he
/-- over enumerate -/
theorem en_P {t : Gx} {f : Sx} {h : β → D} {k : Fl → Out α} {w : Wit k} {P : Out α → Prop} {ds : List D} {ρ : Rho} (xs : List β) (J : Nat → Rho → Prop) (hd : ds = xs.map h) (h0 : J 0 ρ)
    (hs : ∀ i x ρ, xs[i]? = some x → J i ρ → Turn t f (.tup [.int (i : Nat), h x]) ρ (J (i + 1)) k P) (he : ∀ ρ, J xs.length ρ → P (k (.next ρ))) : P (bnd k w (lp t f (enD 0 ds) ρ)) := by
  subst hd
  rw [en_zip]
  refine lp_P (h := fun p : β × Nat => D.tup [.int ((p.2 : Nat) : Int), h p.1]) xs.zipIdx J rfl h0 (fun i x ρ hx hj => ?_) (by rw [List.length_zipIdx]; exact he)
  rw [List.getElem?_zipIdx] at hx
  cases e : xs[i]? with
  | none => rw [e] at hx; cases hx
  | some y =>
    rw [e] at hx
    cases hx
    rw [Nat.zero_add]
    exact hs i y ρ e hj
theorem en_eq {t : Gx} {f : Sx} {h : β → D} {k : Fl → Out α} {w : Wit k} {o : Out α} {ds : List D} {ρ : Rho} (xs : List β) (J : Nat → Rho → Prop) (hd : ds = xs.map h) (h0 : J 0 ρ)
    (hs : ∀ i x ρ, xs[i]? = some x → J i ρ → Turn t f (.tup [.int (i : Nat), h x]) ρ (J (i + 1)) k (· = o)) (he : ∀ ρ, J xs.length ρ → k (.next ρ) = o) : bnd k w (lp t f (enD 0 ds) ρ) = o := en_P (P := (· = o)) xs J hd h0 hs he
/-- good items, then one that makes an end -/
theorem lp_bad {t : Gx} {f : Sx} {h : β → D} {k : Fl → Out α} {w : Wit k} {P : Out α → Prop} {ρ : Rho} (good : List β) (d : D) (rest : List D) (I : Rho → Prop) (h0 : I ρ)
    (hg : ∀ x ρ, x ∈ good → I ρ → Turn t f (h x) ρ I k P) (hb : ∀ ρ, I ρ → Turn t f d ρ (fun _ => False) k P) : P (bnd k w (lp t f (good.map h ++ d :: rest) ρ)) := by
  refine lp_P (h := id) (good.map h ++ d :: rest) (fun i ρ => i ≤ good.length ∧ I ρ) (by simp) ⟨Nat.zero_le _, h0⟩ (fun i x ρ hx ⟨hi, hI⟩ => ?_) (fun ρ ⟨hl, _⟩ => ?_)
  · by_cases hlt : i < good.length
    · rw [List.getElem?_append_left (by simpa using hlt), List.getElem?_map, List.getElem?_eq_getElem hlt] at hx
      cases hx
      have s := hg good[i] ρ (List.getElem_mem hlt) hI
      unfold Turn at s ⊢
      revert s
      show Aft I k P (bnd f () (liftO (t (h good[i]) ρ))) → Aft _ k P (bnd f () (liftO (t (h good[i]) ρ)))
      generalize bnd f () (liftO (t (h good[i]) ρ)) = r
      intro s
      cases r with
      | stuck => exact s
      | exc c ρ' => exact s
      | ok fl => cases fl <;> first | exact ⟨hlt, s⟩ | exact s
    · have e : i = good.length := by omega
      subst e
      rw [List.getElem?_append_right (by simp)] at hx
      simp at hx
      subst hx
      have s := hb ρ hI
      unfold Turn at s ⊢
      revert s
      show Aft _ k P (bnd f () (liftO (t d ρ))) → Aft _ k P (bnd f () (liftO (t d ρ)))
      generalize bnd f () (liftO (t d ρ)) = r
      intro s
      cases r with
      | stuck => exact s
      | exc c ρ' => exact s
      | ok fl => cases fl <;> first | exact s.elim | exact s
  · rw [List.length_append, List.length_map, List.length_cons] at hl
    omega
theorem lp_badx {t : Gx} {f : Sx} {h : β → D} {k : Fl → Out α} {w : Wit k} {c : Str} {ρ : Rho} (good : List β) (d : D) (rest : List D) (I : Rho → Prop) (h0 : I ρ)
    (hg : ∀ x ρ, x ∈ good → I ρ → Turn t f (h x) ρ I k (isX · c)) (hb : ∀ ρ, I ρ → Turn t f d ρ (fun _ => False) k (isX · c)) : isX (bnd k w (lp t f (good.map h ++ d :: rest) ρ)) c := lp_bad (P := (isX · c)) good d rest I h0 hg hb
theorem lp_bade {t : Gx} {f : Sx} {h : β → D} {k : Fl → Out α} {w : Wit k} {o : Out α} {ρ : Rho} (good : List β) (d : D) (rest : List D) (I : Rho → Prop) (h0 : I ρ)
    (hg : ∀ x ρ, x ∈ good → I ρ → Turn t f (h x) ρ I k (· = o)) (hb : ∀ ρ, I ρ → Turn t f d ρ (fun _ => False) k (· = o)) : bnd k w (lp t f (good.map h ++ d :: rest) ρ) = o := lp_bad (P := (· = o)) good d rest I h0 hg hb
/-! comprehensions -/
def LV (vs : List Nat) (ρ0 : Rho) (g : D) : Out (D × Rho) → Prop
  | .ok (v, ρ3) => v = g ∧ wipeE ρ3 vs = ρ0
  | _ => False
def LT (l vs : List Nat) (fe : Ex) (ρ0 : Rho) (c : Bool) (g : D) : Out (Bool × Rho) → Prop
  | .ok (b, ρ2) => b = c ∧ (if b = true then LV vs ρ0 g (eF l fe ρ2) else wipeE ρ2 vs = ρ0)
  | _ => False
def LTurn (l vs : List Nat) (ft : Gx) (tt : Tx) (fe : Ex) (d : D) (ρ : Rho) (c : Bool) (g : D) : Prop := LT l vs fe ρ c g (bnd tt () (liftO (ft d ρ)))
section
variable {l vs : List Nat} {fe : Ex} {ρ0 ρ : Rho} {c b : Bool} {g v : D}
@[simp] theorem x_LV : LV vs ρ0 g (.ok (v, ρ)) = (v = g ∧ wipeE ρ vs = ρ0) := (rfl)
@[simp] theorem x_LT : LT l vs fe ρ0 c g (.ok (b, ρ)) = (b = c ∧ (if b = true then LV vs ρ0 g (eF l fe ρ) else wipeE ρ vs = ρ0)) := (rfl)
@[simp] theorem x_LTurn (ft : Gx) (tt : Tx) (d : D) : LTurn l vs ft tt fe d ρ c g = LT l vs fe ρ c g (bnd tt () (liftO (ft d ρ))) := (rfl)
end
theorem lc_go {l vs : List Nat} {ft : Gx} {tt : Tx} {fe : Ex} {h : β → D} {ρ : Rho} (c : β → Bool) (g : β → D) : ∀ (xs : List β) (acc : List D), acc.length + xs.length ≤ 16777216 → (∀ x, x ∈ xs → LTurn l vs ft tt fe (h x) ρ (c x) (g x)) →
    lcLp l vs ft tt fe (xs.map h) ρ acc = .ok (acc ++ (xs.filter c).map g, ρ) := fun xs acc hl hs => by
  refine lc_eqM c g xs acc hl fun x hx => ?_
  have s := hs x hx
  unfold LTurn at s
  cases e1 : ft (h x) ρ with
  | none => rw [e1] at s; exact s.elim
  | some ρ1 =>
    rw [e1] at s
    have s : LT l vs fe ρ (c x) (g x) (tt ρ1) := s
    cases e2 : tt ρ1 with
    | stuck => rw [e2] at s; exact s.elim
    | exc c' ρ' => rw [e2] at s; exact s.elim
    | ok p =>
      obtain ⟨b, ρ2⟩ := p
      rw [e2] at s
      obtain ⟨hb, s⟩ := s
      subst hb
      refine ⟨ρ1, ρ2, rfl, e2, fun hc => ?_, fun hc => ?_⟩
      · rw [if_pos hc] at s
        cases e3 : eF l fe ρ2 with
        | stuck => rw [e3] at s; exact s.elim
        | exc c' ρ' => rw [e3] at s; exact s.elim
        | ok p =>
          obtain ⟨v, ρ3⟩ := p
          rw [e3] at s
          obtain ⟨s1, s2⟩ := s
          subst s1
          exact ⟨ρ3, rfl, s2⟩
      · rw [hc] at s
        exact s
theorem lc_P {l vs : List Nat} {ft : Gx} {tt : Tx} {fe : Ex} {h : β → D} {k : List D × Rho → Out α} {w : Wit k} {P : Out α → Prop} {ds : List D} {ρ : Rho} (xs : List β) (c : β → Bool) (g : β → D) (hd : ds = xs.map h) (hl : xs.length ≤ 16777216)
    (hs : ∀ x, x ∈ xs → LTurn l vs ft tt fe (h x) ρ (c x) (g x)) (he : P (k ((xs.filter c).map g, ρ))) : P (bnd k w (nox (lcLp l vs ft tt fe ds ρ []))) := by
  subst hd
  rw [lc_go c g xs [] (by simpa using hl) hs]
  exact he
theorem lc_b {l vs : List Nat} {ft : Gx} {tt : Tx} {fe : Ex} {h : β → D} {k : List D × Rho → Out α} {w : Wit k} {o : Out α} {ds : List D} {ρ : Rho} (xs : List β) (c : β → Bool) (g : β → D) (hd : ds = xs.map h) (hl : xs.length ≤ 16777216)
    (hs : ∀ x, x ∈ xs → LTurn l vs ft tt fe (h x) ρ (c x) (g x)) (he : k ((xs.filter c).map g, ρ) = o) : bnd k w (nox (lcLp l vs ft tt fe ds ρ [])) = o := lc_P (P := (· = o)) xs c g hd hl hs he
theorem lm_P {l vs : List Nat} {ft : Gx} {fe : Ex} {h : β → D} {k : List D × Rho → Out α} {w : Wit k} {P : Out α → Prop} {ds : List D} {ρ : Rho} (xs : List β) (g : β → D) (hd : ds = xs.map h) (hl : xs.length ≤ 16777216)
    (hs : ∀ x, x ∈ xs → LTurn l vs ft tsNo fe (h x) ρ true (g x)) (he : P (k (xs.map g, ρ))) : P (bnd k w (nox (lcLp l vs ft tsNo fe ds ρ []))) := by
  refine lc_P xs (fun _ => true) g hd hl hs ?_
  rw [List.filter_eq_self.mpr (fun _ _ => rfl)]
  exact he
theorem lm_b {l vs : List Nat} {ft : Gx} {fe : Ex} {h : β → D} {k : List D × Rho → Out α} {w : Wit k} {o : Out α} {ds : List D} {ρ : Rho} (xs : List β) (g : β → D) (hd : ds = xs.map h) (hl : xs.length ≤ 16777216)
    (hs : ∀ x, x ∈ xs → LTurn l vs ft tsNo fe (h x) ρ true (g x)) (he : k (xs.map g, ρ) = o) : bnd k w (nox (lcLp l vs ft tsNo fe ds ρ [])) = o := lm_P (P := (· = o)) xs g hd hl hs he
/-! within a turn of another loop -/
section
variable {J' : Rho → Prop} {k' : Fl → Out α} {P' : Out α → Prop}
theorem lp_a {t : Gx} {f : Sx} {h : β → D} {k : Fl → Out Fl} {w : Wit k} {ds : List D} {ρ : Rho} (xs : List β) (J : Nat → Rho → Prop) (hd : ds = xs.map h) (h0 : J 0 ρ)
    (hs : ∀ i x ρ, xs[i]? = some x → J i ρ → Turn t f (h x) ρ (J (i + 1)) k (Aft J' k' P')) (he : ∀ ρ, J xs.length ρ → Aft J' k' P' (k (.next ρ))) : Aft J' k' P' (bnd k w (lp t f ds ρ)) := lp_P (P := Aft J' k' P') xs J hd h0 hs he
theorem rg_a {t : Gx} {f : Sx} {k : Fl → Out Fl} {w : Wit k} {lo : Int} {n : Nat} {ρ : Rho} (J : Nat → Rho → Prop) (h0 : J 0 ρ)
    (hs : ∀ i ρ, i < n → J i ρ → Turn t f (.int (lo + (i : Nat))) ρ (J (i + 1)) k (Aft J' k' P')) (he : ∀ ρ, J n ρ → Aft J' k' P' (k (.next ρ))) : Aft J' k' P' (bnd k w (lp t f (rgD lo n) ρ)) := rg_P (P := Aft J' k' P') J h0 hs he
theorem en_a {t : Gx} {f : Sx} {h : β → D} {k : Fl → Out Fl} {w : Wit k} {ds : List D} {ρ : Rho} (xs : List β) (J : Nat → Rho → Prop) (hd : ds = xs.map h) (h0 : J 0 ρ)
    (hs : ∀ i x ρ, xs[i]? = some x → J i ρ → Turn t f (.tup [.int (i : Nat), h x]) ρ (J (i + 1)) k (Aft J' k' P')) (he : ∀ ρ, J xs.length ρ → Aft J' k' P' (k (.next ρ))) : Aft J' k' P' (bnd k w (lp t f (enD 0 ds) ρ)) := en_P (P := Aft J' k' P') xs J hd h0 hs he
theorem lc_a {l vs : List Nat} {ft : Gx} {tt : Tx} {fe : Ex} {h : β → D} {k : List D × Rho → Out Fl} {w : Wit k} {ds : List D} {ρ : Rho} (xs : List β) (c : β → Bool) (g : β → D) (hd : ds = xs.map h) (hl : xs.length ≤ 16777216)
    (hs : ∀ x, x ∈ xs → LTurn l vs ft tt fe (h x) ρ (c x) (g x)) (he : Aft J' k' P' (k ((xs.filter c).map g, ρ))) : Aft J' k' P' (bnd k w (nox (lcLp l vs ft tt fe ds ρ []))) := lc_P (P := Aft J' k' P') xs c g hd hl hs he
theorem lm_a {l vs : List Nat} {ft : Gx} {fe : Ex} {h : β → D} {k : List D × Rho → Out Fl} {w : Wit k} {ds : List D} {ρ : Rho} (xs : List β) (g : β → D) (hd : ds = xs.map h) (hl : xs.length ≤ 16777216)
    (hs : ∀ x, x ∈ xs → LTurn l vs ft tsNo fe (h x) ρ true (g x)) (he : Aft J' k' P' (k (xs.map g, ρ))) : Aft J' k' P' (bnd k w (nox (lcLp l vs ft tsNo fe ds ρ []))) := lm_P (P := Aft J' k' P') xs g hd hl hs he
end
/-- the reckoning ends well, in what has Q -/
def Ev (r : Out α) (Q : α → Prop) : Prop := ∃ a, r = .ok a ∧ Q a
@[simp] theorem x_ev (a : α) (Q : α → Prop) : Ev (.ok a) Q = Q a := by
  refine propext ⟨fun ⟨b, e, q⟩ => ?_, fun q => ⟨a, rfl, q⟩⟩
  cases e; exact q
@[simp] theorem ev_lp {Q : Fl → Prop} (t : Gx) (f : Sx) (ds : List D) (ρ : Rho) : Ev (lp t f ds ρ) Q = Ev (bnd (fun a => .ok a) () (lp t f ds ρ)) Q := by
  cases lp t f ds ρ <;> rfl
/-! .. in a goal Ev -/
section
variable {γ : Type} {Q : α → Prop}
theorem lp_v {t : Gx} {f : Sx} {h : β → D} {k : Fl → Out α} {w : Wit k} {ds : List D} {ρ : Rho} (xs : List β) (J : Nat → Rho → Prop) (hd : ds = xs.map h) (h0 : J 0 ρ)
    (hs : ∀ i x ρ, xs[i]? = some x → J i ρ → Turn t f (h x) ρ (J (i + 1)) k (Ev · Q)) (he : ∀ ρ, J xs.length ρ → Ev (k (.next ρ)) Q) : Ev (bnd k w (lp t f ds ρ)) Q := lp_P (P := (Ev · Q)) xs J hd h0 hs he
theorem rg_v {t : Gx} {f : Sx} {k : Fl → Out α} {w : Wit k} {lo : Int} {n : Nat} {ρ : Rho} (J : Nat → Rho → Prop) (h0 : J 0 ρ)
    (hs : ∀ i ρ, i < n → J i ρ → Turn t f (.int (lo + (i : Nat))) ρ (J (i + 1)) k (Ev · Q)) (he : ∀ ρ, J n ρ → Ev (k (.next ρ)) Q) : Ev (bnd k w (lp t f (rgD lo n) ρ)) Q := rg_P (P := (Ev · Q)) J h0 hs he
theorem en_v {t : Gx} {f : Sx} {h : β → D} {k : Fl → Out α} {w : Wit k} {ds : List D} {ρ : Rho} (xs : List β) (J : Nat → Rho → Prop) (hd : ds = xs.map h) (h0 : J 0 ρ)
    (hs : ∀ i x ρ, xs[i]? = some x → J i ρ → Turn t f (.tup [.int (i : Nat), h x]) ρ (J (i + 1)) k (Ev · Q)) (he : ∀ ρ, J xs.length ρ → Ev (k (.next ρ)) Q) : Ev (bnd k w (lp t f (enD 0 ds) ρ)) Q := en_P (P := (Ev · Q)) xs J hd h0 hs he
theorem lc_v {l vs : List Nat} {ft : Gx} {tt : Tx} {fe : Ex} {h : β → D} {k : List D × Rho → Out α} {w : Wit k} {ds : List D} {ρ : Rho} (xs : List β) (c : β → Bool) (g : β → D) (hd : ds = xs.map h) (hl : xs.length ≤ 16777216)
    (hs : ∀ x, x ∈ xs → LTurn l vs ft tt fe (h x) ρ (c x) (g x)) (he : Ev (k ((xs.filter c).map g, ρ)) Q) : Ev (bnd k w (nox (lcLp l vs ft tt fe ds ρ []))) Q := lc_P (P := (Ev · Q)) xs c g hd hl hs he
theorem lm_v {l vs : List Nat} {ft : Gx} {fe : Ex} {h : β → D} {k : List D × Rho → Out α} {w : Wit k} {ds : List D} {ρ : Rho} (xs : List β) (g : β → D) (hd : ds = xs.map h) (hl : xs.length ≤ 16777216)
    (hs : ∀ x, x ∈ xs → LTurn l vs ft tsNo fe (h x) ρ true (g x)) (he : Ev (k (xs.map g, ρ)) Q) : Ev (bnd k w (nox (lcLp l vs ft tsNo fe ds ρ []))) Q := lm_P (P := (Ev · Q)) xs g hd hl hs he
end
end
end PL

/-! in-out calls, and more equations -/
namespace PL
open PySem PySem.Spec PyProof.Rows L2
section
variable {ρ : Rho} {l : List Nat}
@[simp] theorem x_fzX0 (i : Nat) (ss : List S) : fzX l 0 (.b i :: ss) ρ = (fzL l ss ρ >>= fun q => .ok (.non :: q.1, i, q.2)) := (rfl)
@[simp] theorem x_fzXs (j : Nat) (s : S) (ss : List S) : fzX l (j + 1) (s :: ss) ρ = (fz l s ρ >>= fun p => fzX l j ss p.2 >>= fun q => .ok (p.1 :: q.1, q.2.1, q.2.2)) := fzX_s l j s ss ρ
@[simp] theorem x_call1 (n j0 : Nat) (F : Fn1) (fa : Ax) : eCall1 l n j0 F fa ρ = (fa ρ >>= fun p => fzX l j0 p.1 p.2 >>= fun q => liftO (ownD q.2.2 q.2.1) >>= fun d => if q.1.length = n then F (q.1.set j0 d) >>= fun r => .ok (r.1, putO q.2.2 q.2.1 r.2) else .stuck) := (rfl)
@[simp] theorem x_noX1 (r : S × D) : noX (.ok r) = .ok r := (rfl)
@[simp] theorem x_run1 (j0 m : Nat) (f : Sx) (ds : List D) : run1 j0 m f ds = (f (rho1 j0 ds ++ List.replicate m none) >>= end1 j0) := (rfl)
@[simp] theorem x_rho1a (ds : List D) (d : D) : rho1 0 (d :: ds) = some (.o d) :: ds.map fun d => some (.v d) := (rfl)
@[simp] theorem x_rho1b (j : Nat) (ds : List D) (d : D) : rho1 (j + 1) (d :: ds) = some (.v d) :: rho1 j ds := (rfl)
@[simp] theorem x_end1r (j0 : Nat) (s : S) (ρ' : Rho) : end1 j0 (.ret s ρ') = (liftO (ownD ρ' j0) >>= fun d => .ok (s, d)) := (rfl)
@[simp] theorem x_end1n (j0 : Nat) (ρ' : Rho) : end1 j0 (.next ρ') = (liftO (ownD ρ' j0) >>= fun d => .ok (.v .non, d)) := (rfl)
@[simp] theorem x_setL (ls : List D) (i : Int) (v : D) : dSet (.lst ls) (.int i) v = (ixN ls.length i).map fun j => .lst (ls.set j v) := (rfl)
@[simp] theorem x_isubI (i j : Int) : iSub (.int i) (.int j) = some (.v (.int (i - j))) := (rfl)
@[simp] theorem x_iaddI (i j : Int) : iAdd (.int i) (.int j) = some (.v (.int (i + j))) := (rfl)
@[simp] theorem x_ixSc (ns : List Int) (i : Int) : dIx (.scr ns) (.int i) = (L2.atI ns i).map fun n => .v (.int n) := (rfl)
@[simp] theorem x_slZ (z : Str) (lo hi : Option Int) : dSl (.str z) lo hi = if z.length ≤ 16777216 then some (.v (.str (cutS z lo hi))) else none := (rfl)
@[simp] theorem x_lstS (ns : List Int) : dLst1 [.scr ns] = some (.o (.lst (ns.map .int))) := (rfl)
@[simp] theorem x_addL (a b : List D) : dAdd (.lst a) (.lst b) = if a.length + b.length ≤ 16777216 then some (.o (.lst (a ++ b))) else none := (rfl)
@[simp] theorem x_addZ (a b : Str) : dAdd (.str a) (.str b) = if a.length + b.length ≤ 16777216 then some (.v (.str (a ++ b))) else none := (rfl)
@[simp] theorem x_pop (ls : List D) (d : D) : mPop (ls ++ [d]) [] = some (d, ls) := by
  unfold mPop
  simp
end
theorem x_eq_bl (i j : Bool) : eqD (.bl i) (.bl j) = decide (i = j) := by
  cases i <;> cases j <;> rfl
@[simp] theorem x_dEq_bl (i j : Bool) : dEq (.bl i) (.bl j) = some (decide (i = j)) := by
  unfold dEq
  rw [if_pos (show flatX (.bl i) (.bl j) = true from rfl), x_eq_bl]
@[simp] theorem x_ltZ (i j : Str) : dLt (.str i) (.str j) = some (decide (i.cps.toList < j.cps.toList)) := (rfl)
@[simp] theorem x_leZ (i j : Str) : dLe (.str i) (.str j) = some (!decide (j.cps.toList < i.cps.toList)) := (rfl)
@[simp] theorem x_gtZ (i j : Str) : dGt (.str i) (.str j) = some (decide (j.cps.toList < i.cps.toList)) := (rfl)
@[simp] theorem x_geZ (i j : Str) : dGe (.str i) (.str j) = some (!decide (i.cps.toList < j.cps.toList)) := (rfl)
/-- bounds that omega shows: simp (disch := omega) [ite_line, ite_line1] -/
theorem ite_line {α : Type} {n : Nat} {a b : α} (h : n ≤ 16777216) : (if n ≤ 16777216 then a else b) = a := if_pos h
theorem ite_line1 {α : Type} {n : Nat} {a b : α} (h : n < 16777216) : (if n < 16777216 then a else b) = a := if_pos h
theorem int1_line {i : Int} (h : -4611686018427387904 ≤ i ∧ i < 4611686018427387904) : PL.int1 [.int i] = some i := x_int1' i h
/-! the digits of places: ixN at small numbers -/
theorem ixN_nat {n k : Nat} (h : k < n) : ixN n (k : Int) = some k := by
  unfold ixN
  rw [if_pos (by omega), if_pos (by omega)]
  rfl
theorem ixN_i {n : Nat} {i : Int} (h0 : 0 ≤ i) (h : i < n) : ixN n i = some i.toNat := by
  have e : ((i.toNat : Nat) : Int) = i := by omega
  have := ixN_nat (n := n) (k := i.toNat) (by omega)
  rwa [e] at this
theorem atI_i {α : Type} {xs : List α} {i : Int} (h0 : 0 ≤ i) (h : i.toNat < xs.length) : L2.atI xs i = some xs[i.toNat] := by
  rw [atI_pos h0, List.getElem?_eq_getElem h]
@[simp] theorem atI_0 {α : Type} (x : α) (xs : List α) : L2.atI (x :: xs) 0 = some x := atI_ofNat _ 0 _ rfl
@[simp] theorem atI_1 {α : Type} (x y : α) (xs : List α) : L2.atI (x :: y :: xs) 1 = some y := atI_ofNat _ 1 _ rfl
@[simp] theorem atI_2 {α : Type} (x y z : α) (xs : List α) : L2.atI (x :: y :: z :: xs) 2 = some z := atI_ofNat _ 2 _ rfl
@[simp] theorem atI_3 {α : Type} (x y z u : α) (xs : List α) : L2.atI (x :: y :: z :: u :: xs) 3 = some u := atI_ofNat _ 3 _ rfl
@[simp] theorem atI_4 {α : Type} (x y z u v : α) (xs : List α) : L2.atI (x :: y :: z :: u :: v :: xs) 4 = some v := atI_ofNat _ 4 _ rfl
theorem atI_map' {α β : Type} (f : α → β) {xs : List α} {i : Int} {x : α} (h : L2.atI xs i = some x) : L2.atI (xs.map f) i = some (f x) := by
  rw [atI_map, h]; rfl
/-- an index within the bounds finds something -/
theorem atI_ex {α : Type} {xs : List α} {i : Int} (h0 : 0 ≤ i) (h : i < xs.length) : ∃ x, L2.atI xs i = some x ∧ x ∈ xs := by
  have h' : i.toNat < xs.length := by omega
  exact ⟨xs[i.toNat], atI_i h0 h', List.getElem_mem h'⟩
/-! slices -/
theorem cutG_to {α : Type} {xs : List α} {k : Int} (h0 : 0 ≤ k) : cutG xs none (some k) = xs.take k.toNat := by
  unfold cutG
  simp [HT.sIx]
  rw [if_neg (by omega)]
  omega
theorem cutG_from {α : Type} {xs : List α} {k : Int} (h0 : 0 ≤ k) : cutG xs (some k) none = xs.drop k.toNat := by
  unfold cutG
  simp [HT.sIx]
  rw [if_neg (by omega)]
  by_cases h : k.toNat ≤ xs.length
  · rw [show min k.toNat xs.length = k.toNat by omega, List.take_of_length_le (by rw [List.length_drop]; omega)]
  · rw [List.drop_eq_nil_of_le (show xs.length ≤ min k.toNat xs.length by omega), List.drop_eq_nil_of_le (show xs.length ≤ k.toNat by omega)]
    simp
end PL

/-! in-out calls of an object just made: f(g(..), constants) -/
namespace PL
open PySem PySem.Spec PyProof.Rows L2
/-- whole numbers as further arguments -/
def ROk (g : Cf) (es : List Expr) (ds : List D) : Prop := ∀ X : Cx, At g X → ∃ vs : List V, (∀ (K : PySem.W.Frag) (H : Hp), ImmL K H ds vs) ∧ PA X es (fun σ H Q => Q vs H)
def eCallT (n : Nat) (F : Fn1) (fe : Ex) (ds : List D) : Ex := fun ρ => fe ρ >>= fun p => match p.1 with
  | .o d => if ds.length + 1 = n then F (d :: ds) >>= fun r => .ok (r.1, p.2) else .stuck
  | _ => .stuck
@[simp] theorem x_callT (n : Nat) (F : Fn1) (fe : Ex) (ds : List D) (ρ : Rho) : eCallT n F fe ds ρ = (fe ρ >>= fun p => match p.1 with
  | .o d => if ds.length + 1 = n then F (d :: ds) >>= fun r => .ok (r.1, p.2) else .stuck
  | _ => .stuck) := (rfl)
section
variable {g : Cf} {e : Expr} {es : List Expr} {pos : Pos}
theorem r_nil : ROk g [] [] := fun X A => ⟨[], fun _ _ => rfl, PA.imp pa_nil fun σ H Q q => q⟩
theorem r_int {i : Int} {j : Nat} {ds : List D} (h : ROk g es ds) (hs : ∀ env, starEach (.Constant (.int i) j pos :: es) env = (false, eval (.Constant (.int i) j pos) env) :: starEach es env := by intro _; rfl) : ROk g (.Constant (.int i) j pos :: es) (.int i :: ds) := fun X A => by
  obtain ⟨vs, h1, h2⟩ := h X A
  exact ⟨.int i :: vs, fun K H => ⟨_, _, rfl, rfl, h1 K H⟩, PA.imp (pa_cons pe_int h2 (hs _)) fun σ H Q q => q⟩
theorem e_callT {x : Str} {p : Pos} {n : Nat} {F : Fn1} {fe : Ex} {ds : List D} (hc : Cal1 g x n 0 F) (he : EOk g e fe) (hr : ROk g es ds) (hg : Glo g x := by rfl) (hdb : (x == ("__debug__" : Str)) = false := by decide)
    (hs : ∀ env, starEach (e :: es) env = (false, eval e env) :: starEach es env := by intro _; rfl) (hpl : ∀ env, (backTo pos (starEach es env)).any (·.1) = false := by intro _; rfl) : EOk g (.Call (.Name x p) (e :: es) [] pos) (eCallT n (fun ds => noX (F ds)) fe ds) := fun X W A tk => by
  obtain ⟨f, fd, ps, h1, h2, h3, h4⟩ := hc.ex
  have h1' : FnOk X.prog X.w X.K X.mg X.base (L2.CX X.prog X.w) g.k f fd ps (sp1 X.K n 0 F) := by rw [A.prog, A.w, A.K, A.mg, A.base]; exact h1
  obtain ⟨vs, v1, v2⟩ := hr X A
  refine PE.imp (pe_callS h1' A.room (hg.gl A) (by rw [A.mg]; exact h2) (by rw [A.K]; exact h3) (by rw [A.K]; exact h4) (fun σ => passAt tk σ) (pa_cons (he X W A tk) v2 (hs _)) hdb (hs _) (hpl _)) fun σ H Q ⟨ρ, R, q⟩ => ⟨ρ, R, ?_⟩
  unfold eCallT at q
  cases hfe : fe ρ with
  | stuck => rw [hfe] at q; exact q.elim
  | exc c ρ' => rw [hfe] at q; exact q
  | ok p =>
    obtain ⟨z, ρ'⟩ := p
    rw [hfe, bind_ok] at q
    intro H1 E1 R1 y sr
    cases z with
    | v d => exact q.elim
    | b i => exact q.elim
    | o d =>
      simp only at q
      split at q
      case isFalse => exact q.elim
      rename_i hlen
      obtain ⟨a, e1, ow, no, h0⟩ := sr
      subst e1
      have hl : vs.length = ds.length := (v1 X.K H1).len
      refine ⟨d :: ds, a, d, by rw [List.length_cons]; exact hlen, by rw [List.length_cons, hl]; exact hlen, rfl, rfl, ow, fun k d' hk hd => ?_, ?_⟩
      · cases k with
        | zero => exact (hk rfl).elim
        | succ k =>
          obtain ⟨x, x1, x2⟩ := (v1 X.K H1).get' (i := k) (d := d') (by simpa using hd)
          exact ⟨x, by simpa using x1, x2⟩
      · cases hF : F (d :: ds) with
        | stuck => simp only [hF, noX] at q; exact q.elim
        | exc c ρ2 => simp only [hF, noX] at q; exact q.elim
        | ok r =>
          obtain ⟨s, d2⟩ := r
          simp only [hF, noX, bind_ok] at q
          intro H' y E2 keep o2 rs
          have R2 := R1.but E2 keep no h0
          refine q H' (E1.trans E2) R2 y ?_
          cases s with
          | v d' => exact rs
          | o d' =>
            obtain ⟨b, e2, h5, h6⟩ := rs
            exact ⟨b, e2, h6, not_own R1 h5, not_old R1 h5⟩
          | b j => exact rs.elim
/-! a comprehension's list to a cell, or from another line -/
theorem sw_cell {elt : Expr} {gs : List Comprehension} {scope : Scope} {pos py : Pos} {y : Str} {l : Nat} {env : Env} (hy : env.scope.names.lookup y = some .cell) : swapsWith (.ListComp elt gs scope pos) (some (.Name y py)) l env = pure false := by
  have ky : env.kindOf y = some .cell := hy
  unfold swapsWith
  simp only [ky]
  cases env.blockKind <;> rfl
theorem sw_line {elt : Expr} {gs : List Comprehension} {scope : Scope} {pos py : Pos} {y : Str} {l : Nat} {env : Env} (hl : (py.line == pos.line) = false) : swapsWith (.ListComp elt gs scope pos) (some (.Name y py)) l env = pure false := by
  unfold swapsWith
  simp only [Expr.pos, hl]
  cases env.blockKind <;> cases env.kindOf y <;> simp
/-! a, b = x, y -/
def sPar (l : List Nat) (i j : Nat) (fa : Ax) : Sx := fun ρ => aF l fa ρ >>= fun p => match p.1 with
  | [d, e] => if i ∈ l ∨ j ∈ l then .stuck else .ok (.next ((p.2.set i (some (.v d))).set j (some (.v e))))
  | _ => .stuck
@[simp] theorem x_sPar (l : List Nat) (i j : Nat) (fa : Ax) (ρ : Rho) : sPar l i j fa ρ = (aF l fa ρ >>= fun p => match p.1 with
  | [d, e] => if i ∈ l ∨ j ∈ l then .stuck else .ok (.next ((p.2.set i (some (.v d))).set j (some (.v e))))
  | _ => .stuck) := (rfl)
theorem s_par {i j : Nat} {x y : Str} {a b : Expr} {fa : Ax} {px py pt : Pos} {kt k2 pt2} (sx : Slot g x i) (sy : Slot g y j) (hij : i ≠ j) (hk : g.sc.kind = .function) (hx : g.sc.names.lookup x = some .local) (hy : g.sc.names.lookup y = some .local) (ha : AOk g [a, b] fa)
    (hw : ∀ env : Env, env.blockKind = .function → env.kindOf x = some .local → env.kindOf y = some .local → swappedStores [.Tuple [.Name x px, .Name y py] kt pt] (.Tuple [a, b] k2 pt2) env = pure (some [x, y]) := by
      intro env hb hx hy; unfold swappedStores; simp only [List.filterMap, hb, hx, hy]; rfl)
    (hs : ∀ env, swapsWithSole [.Tuple [.Name x px, .Name y py] kt pt] (.Tuple [a, b] k2 pt2) pos.line env = pure false := by intro _; rfl) :
    SOk g (.Assign [.Tuple [.Name x px, .Name y py] kt pt] (.Tuple [a, b] k2 pt2) pos) (sPar g.ios i j fa) := fun X W A tk => by
  have kx : X.env.kindOf x = some .local := by show X.env.scope.names.lookup x = _; rw [A.sc]; exact hx
  have ky : X.env.kindOf y = some .local := by show X.env.scope.names.lookup y = _; rw [A.sc]; exact hy
  have kb : X.env.blockKind = .function := by unfold Env.blockKind; rw [A.sc, hk]; rfl
  refine PS.imp (ps_par (i := i) (j := j) A.calm (by rw [A.N]; exact sx.nd) (by rw [A.N]; exact sx.ix) (by rw [A.N]; exact sy.ix) hij kx ky (ha.f A.toAt tk) (hw _ kb kx ky) (hs _)) fun D σ H ⟨ρ, R, q⟩ => ⟨ρ, R, Ps_step q fun p _ q1 H1 E1 R1 vs im => ?_⟩
  obtain ⟨ds, ρ1⟩ := p
  match ds, im, q1 with
  | [d, e], im, q1 =>
    obtain ⟨v, r, e1, i1, w, r2, e2, i2, e3⟩ := im
    subst e1
    subst e2
    cases (show _ = _ from e3)
    refine ⟨v, w, rfl, ?_⟩
    have q1 : PsS X.K g H W D (if i ∈ g.ios ∨ j ∈ g.ios then .stuck else .ok (.next ((ρ1.set i (some (.v d))).set j (some (.v e))))) := q1
    split at q1
    · exact q1.elim
    · rename_i hio
      have R1 : ER X.K g ρ1 σ H1 := R1
      have n1 : i ∉ g.ios := fun z => hio (.inl z)
      have n2 : j ∉ g.ios := fun z => hio (.inr z)
      have R2 := R1.set (s := .v d) (x := v) i1 n1
      have R3 := R2.set (s := .v e) (x := w) i2 n2
      exact q1 _ H1 E1 R3
  | [], _, q1 => exact q1.elim
  | [_], _, q1 => exact q1.elim
  | _ :: _ :: _ :: _, _, q1 => exact q1.elim
end
/-! comprehensions whose turns change the state -/
section
variable {α β : Type}
def LVJ (vs : List Nat) (J : Rho → Prop) (g : D) : Out (D × Rho) → Prop
  | .ok (v, ρ3) => v = g ∧ J (wipeE ρ3 vs)
  | _ => False
def LTJ (l vs : List Nat) (fe : Ex) (J : Rho → Prop) (c : Bool) (g : D) : Out (Bool × Rho) → Prop
  | .ok (b, ρ2) => b = c ∧ (if b = true then LVJ vs J g (eF l fe ρ2) else J (wipeE ρ2 vs))
  | _ => False
section
variable {l vs : List Nat} {fe : Ex} {J : Rho → Prop} {ρ : Rho} {c b : Bool} {g v : D}
@[simp] theorem x_LVJ : LVJ vs J g (.ok (v, ρ)) = (v = g ∧ J (wipeE ρ vs)) := (rfl)
@[simp] theorem x_LTJ : LTJ l vs fe J c g (.ok (b, ρ)) = (b = c ∧ (if b = true then LVJ vs J g (eF l fe ρ) else J (wipeE ρ vs))) := (rfl)
end
theorem lcJ_go {l vs : List Nat} {ft : Gx} {tt : Tx} {fe : Ex} {h : β → D} (all : List β) (J : Nat → Rho → Prop) (c : β → Bool) (g : β → D) (hs : ∀ i x ρ, all[i]? = some x → J i ρ → LTJ l vs fe (J (i + 1)) (c x) (g x) (bnd tt () (liftO (ft (h x) ρ)))) :
    ∀ (xs : List β) (n : Nat) (acc : List D) (ρ : Rho), all.drop n = xs → n + xs.length = all.length → acc.length + xs.length ≤ 16777216 → J n ρ → ∃ ρ', lcLp l vs ft tt fe (xs.map h) ρ acc = .ok (acc ++ (xs.filter c).map g, ρ') ∧ J all.length ρ'
  | [], n, acc, ρ, _, hn, _, hj => ⟨ρ, by simp [lcLp], by rw [← hn]; exact hj⟩
  | x :: xs, n, acc, ρ, e, hn, hl, hj => by
    have hx : all[n]? = some x := by
      have := congrArg (fun l => l[0]?) e
      simpa using this
    have s := hs n x ρ hx hj
    have e' : all.drop (n + 1) = xs := by rw [← List.drop_drop, e]; rfl
    rw [List.length_cons] at hn hl
    have ih := fun acc' ρ' hl' => lcJ_go (l := l) (vs := vs) (ft := ft) (tt := tt) (fe := fe) (h := h) all J c g hs xs (n + 1) acc' ρ' e' (by omega) hl'
    rw [List.map_cons, lcLp]
    cases e1 : ft (h x) ρ with
    | none => rw [e1] at s; exact s.elim
    | some ρ1 =>
      rw [e1] at s
      have s : LTJ l vs fe (J (n + 1)) (c x) (g x) (tt ρ1) := s
      rw [liftO_some, bind_ok]
      cases e2 : tt ρ1 with
      | stuck => rw [e2] at s; exact s.elim
      | exc c' ρ' => rw [e2] at s; exact s.elim
      | ok p =>
        obtain ⟨b, ρ2⟩ := p
        rw [e2] at s
        obtain ⟨hb, s⟩ := s
        rw [bind_ok]
        cases hc : c x with
        | false =>
          rw [hc] at hb
          subst hb
          have s : J (n + 1) (wipeE ρ2 vs) := s
          obtain ⟨ρ', h1, h2⟩ := ih acc (wipeE ρ2 vs) (by omega) s
          refine ⟨ρ', ?_, h2⟩
          rw [if_neg (by simp), h1, List.filter_cons_of_neg (by rw [hc]; simp)]
        | true =>
          rw [hc] at hb
          subst hb
          have s : LVJ vs (J (n + 1)) (g x) (eF l fe ρ2) := s
          cases e3 : eF l fe ρ2 with
          | stuck => rw [e3] at s; exact s.elim
          | exc c' ρ' => rw [e3] at s; exact s.elim
          | ok p =>
            obtain ⟨v, ρ3⟩ := p
            rw [e3] at s
            obtain ⟨s1, s2⟩ := s
            subst s1
            obtain ⟨ρ', h1, h2⟩ := ih (acc ++ [g x]) (wipeE ρ3 vs) (by rw [List.length_append, List.length_singleton]; omega) s2
            refine ⟨ρ', ?_, h2⟩
            rw [if_pos rfl, bind_ok, if_pos (by omega), h1, List.filter_cons_of_pos hc, List.map_cons, List.append_assoc]
            rfl
theorem lcJ_P {l vs : List Nat} {ft : Gx} {tt : Tx} {fe : Ex} {h : β → D} {k : List D × Rho → Out α} {w : Wit k} {P : Out α → Prop} {ds : List D} {ρ : Rho} (xs : List β) (J : Nat → Rho → Prop) (c : β → Bool) (g : β → D) (hd : ds = xs.map h) (hl : xs.length ≤ 16777216) (h0 : J 0 ρ)
    (hs : ∀ i x ρ, xs[i]? = some x → J i ρ → LTJ l vs fe (J (i + 1)) (c x) (g x) (bnd tt () (liftO (ft (h x) ρ)))) (he : ∀ ρ, J xs.length ρ → P (k ((xs.filter c).map g, ρ))) : P (bnd k w (nox (lcLp l vs ft tt fe ds ρ []))) := by
  subst hd
  obtain ⟨ρ', h1, h2⟩ := lcJ_go xs J c g hs xs 0 [] ρ rfl (by omega) (by simpa using hl) h0
  rw [h1]
  exact he ρ' h2
theorem lmJ_P {l vs : List Nat} {ft : Gx} {fe : Ex} {h : β → D} {k : List D × Rho → Out α} {w : Wit k} {P : Out α → Prop} {ds : List D} {ρ : Rho} (xs : List β) (J : Nat → Rho → Prop) (g : β → D) (hd : ds = xs.map h) (hl : xs.length ≤ 16777216) (h0 : J 0 ρ)
    (hs : ∀ i x ρ, xs[i]? = some x → J i ρ → LTJ l vs fe (J (i + 1)) true (g x) (bnd tsNo () (liftO (ft (h x) ρ)))) (he : ∀ ρ, J xs.length ρ → P (k (xs.map g, ρ))) : P (bnd k w (nox (lcLp l vs ft tsNo fe ds ρ []))) := by
  refine lcJ_P xs J (fun _ => true) g hd hl h0 hs fun ρ hj => ?_
  rw [List.filter_eq_self.mpr (fun _ _ => rfl)]
  exact he ρ hj
theorem lcJ_v {Q : α → Prop} {l vs : List Nat} {ft : Gx} {tt : Tx} {fe : Ex} {h : β → D} {k : List D × Rho → Out α} {w : Wit k} {ds : List D} {ρ : Rho} (xs : List β) (J : Nat → Rho → Prop) (c : β → Bool) (g : β → D) (hd : ds = xs.map h) (hl : xs.length ≤ 16777216) (h0 : J 0 ρ)
    (hs : ∀ i x ρ, xs[i]? = some x → J i ρ → LTJ l vs fe (J (i + 1)) (c x) (g x) (bnd tt () (liftO (ft (h x) ρ)))) (he : ∀ ρ, J xs.length ρ → Ev (k ((xs.filter c).map g, ρ)) Q) : Ev (bnd k w (nox (lcLp l vs ft tt fe ds ρ []))) Q := lcJ_P (P := (Ev · Q)) xs J c g hd hl h0 hs he
theorem lmJ_v {Q : α → Prop} {l vs : List Nat} {ft : Gx} {fe : Ex} {h : β → D} {k : List D × Rho → Out α} {w : Wit k} {ds : List D} {ρ : Rho} (xs : List β) (J : Nat → Rho → Prop) (g : β → D) (hd : ds = xs.map h) (hl : xs.length ≤ 16777216) (h0 : J 0 ρ)
    (hs : ∀ i x ρ, xs[i]? = some x → J i ρ → LTJ l vs fe (J (i + 1)) true (g x) (bnd tsNo () (liftO (ft (h x) ρ)))) (he : ∀ ρ, J xs.length ρ → Ev (k (xs.map g, ρ)) Q) : Ev (bnd k w (nox (lcLp l vs ft tsNo fe ds ρ []))) Q := lmJ_P (P := (Ev · Q)) xs J g hd hl h0 hs he
theorem lcJ_b {o : Out α} {l vs : List Nat} {ft : Gx} {tt : Tx} {fe : Ex} {h : β → D} {k : List D × Rho → Out α} {w : Wit k} {ds : List D} {ρ : Rho} (xs : List β) (J : Nat → Rho → Prop) (c : β → Bool) (g : β → D) (hd : ds = xs.map h) (hl : xs.length ≤ 16777216) (h0 : J 0 ρ)
    (hs : ∀ i x ρ, xs[i]? = some x → J i ρ → LTJ l vs fe (J (i + 1)) (c x) (g x) (bnd tt () (liftO (ft (h x) ρ)))) (he : ∀ ρ, J xs.length ρ → k ((xs.filter c).map g, ρ) = o) : bnd k w (nox (lcLp l vs ft tt fe ds ρ [])) = o := lcJ_P (P := (· = o)) xs J c g hd hl h0 hs he
theorem lmJ_b {o : Out α} {l vs : List Nat} {ft : Gx} {fe : Ex} {h : β → D} {k : List D × Rho → Out α} {w : Wit k} {ds : List D} {ρ : Rho} (xs : List β) (J : Nat → Rho → Prop) (g : β → D) (hd : ds = xs.map h) (hl : xs.length ≤ 16777216) (h0 : J 0 ρ)
    (hs : ∀ i x ρ, xs[i]? = some x → J i ρ → LTJ l vs fe (J (i + 1)) true (g x) (bnd tsNo () (liftO (ft (h x) ρ)))) (he : ∀ ρ, J xs.length ρ → k (xs.map g, ρ) = o) : bnd k w (nox (lcLp l vs ft tsNo fe ds ρ [])) = o := lmJ_P (P := (· = o)) xs J g hd hl h0 hs he
end
end PL

/-! dict comprehensions (keys: ints, texts) -/
namespace PL
open PySem PySem.Spec PyProof.Rows L2
def dcLp (l vs : List Nat) (ft : Gx) (tt : Tx) (fk fe : Ex) : List D → Rho → List (D × D) → Out (List (D × D) × Rho)
  | [], ρ, acc => .ok (acc, ρ)
  | d :: ds, ρ, acc => liftO (ft d ρ) >>= fun ρ1 => tt ρ1 >>= fun p =>
      if p.1 = true then eF l fk p.2 >>= fun q => liftO (keyD q.1) >>= fun k => eF l fe q.2 >>= fun r => if acc.length < 16777216 then dcLp l vs ft tt fk fe ds (wipeE r.2 vs) (gPut false acc [k] q.1 r.1) else .stuck
      else dcLp l vs ft tt fk fe ds (wipeE p.2 vs) acc
def eDc (l vs : List Nat) (fi : Ix) (ft : Gx) (tt : Tx) (fk fe : Ex) : Ex := fun ρ => fi ρ >>= fun p => if (∀ i ∈ vs, i ∉ l) then nox (dcLp l vs ft tt fk fe p.1 (wipeE p.2 vs) []) >>= fun q => .ok (.o (.dic false q.1), unwipe vs p.2 q.2) else .stuck
section
variable {J : It} {n : Nat} {G : Hp → Prop} {Y : Nat → Hp → V → Hp → Prop}
theorem dc_it (w : Walk J n G Y) {g : TG} {tt : TT} {tk te : TE} {vs : List Nat} {σ : L2.St} {H1 : Hp} {D : Addr} {Qd : Hp → Prop} (Pv : Nat → Hp → Prop) (h0 : Pv 0 (upd H1 D (.dK []))) (hG : ∀ i H, i ≤ n → Pv i H → G H)
    (hs : ∀ i x H H', i < n → Pv i H → Y i H x H' → g x (wipe σ vs) H' fun σ2 H2 => wipe σ2 vs = wipe σ vs ∧ tt σ2 H2 fun b H3 =>
      if b = true then tk σ2 H3 fun y H4 => te σ2 H4 fun z H5 => ∃ kvs k, y = kV k ∧ H5 D = some (.dK kvs) ∧ kvs.length < sizeLine ∧ Pv (i + 1) (upd H5 D (.dK (putK kvs k z))) else Pv (i + 1) H3) (hd : ∀ H, Pv n H → Qd H) :
    ∃ W : Nat → Nat → Hp → Prop, (∃ m, W 0 m (upd H1 D (.dK []))) ∧ ∀ i m H, W i m H →
      (J.stop i H ∧ Qd H) ∨ (J.go i H ∧ ∃ Nx : Hp → Prop, (∀ H', Nx H' → ∃ m', m' < m ∧ W (i + 1) m' H') ∧ ∀ x H', J.yld i H x H' → g x (wipe σ vs) H' fun σ2 H2 => wipe σ2 vs = wipe σ vs ∧ tt σ2 H2 fun b H3 =>
        if b = true then tk σ2 H3 fun y H4 => te σ2 H4 fun z H5 => ∃ kvs k, y = kV k ∧ H5 D = some (.dK kvs) ∧ kvs.length < sizeLine ∧ Nx (upd H5 D (.dK (putK kvs k z))) else Nx H3) := by
  refine ⟨fun i m H => m = n - i ∧ i ≤ n ∧ Pv i H, ⟨n, by simp, Nat.zero_le _, h0⟩, ?_⟩
  rintro i m H ⟨rfl, hi, p⟩
  have q := hG i H hi p
  by_cases hlt : i < n
  · refine .inr ⟨w.goes i H hlt q, Pv (i + 1), fun H' p' => ⟨n - (i + 1), by omega, rfl, hlt, p'⟩, fun x H' y => hs i x H H' hlt p (w.yields i H x H' hlt q y)⟩
  · have e : i = n := by omega
    subst e
    exact .inl ⟨w.stops H q, hd H p⟩
end
section
variable {g : Cf} {X : Cx} {e a b c tg kx elt iter : Expr} {ifs : List Expr} {pos : Pos} {W : WX} {K : PySem.W.Frag}
/-- the heart of a comprehension's reading -/
theorem read_dc {scope : Scope} {own : List (Str × Nat)} {ts vs : List Nat} {fi : Ix} {ft : Gx} {tt : Tx} {fk fe : Ex} (A : At g X) (hts : ∀ i ∈ ts, i ∈ vs) {σ : L2.St} {H : Hp} {Q : VK} {tgt : TG} {ttt : TT} {ttk tte : TE}
    (hg : ∀ {v σ2 H2 Q} {H0 : Hp}, tGx X.K (g.blk scope H0) ts ft v σ2 H2 Q → tgt v σ2 H2 Q)
    (ht : ∀ {σ2 H2 Q} {H0 : Hp}, tT X.K (g.blk scope H0) tt (fun _ _ _ _ => False) σ2 H2 Q → ttt σ2 H2 Q)
    (hk : ∀ {σ2 H2 Q} {H0 : Hp}, tF X.K (g.blk scope H0) fk (fun _ _ _ _ => False) σ2 H2 Q → ttk σ2 H2 Q)
    (he : ∀ {σ2 H2 Q} {H0 : Hp}, tF X.K (g.blk scope H0) fe (fun _ _ _ _ => False) σ2 H2 Q → tte σ2 H2 Q)
    (t : tE X.K g (eDc g.ios vs fi ft tt fk fe) W σ H Q) : tDc (tI X.K g fi W) tgt ttt ttk tte vs σ H Q := by
  obtain ⟨ρ, R, q⟩ := t
  refine ⟨ρ, R, ?_⟩
  unfold eDc at q
  cases hf : fi ρ with
  | stuck => rw [hf] at q; exact q.elim
  | exc c ρ1 => rw [hf] at q; exact q
  | ok p =>
    obtain ⟨ds, ρ1⟩ := p
    rw [hf] at q
    simp only [bind_ok] at q
    split at q
    case isFalse => exact q.elim
    rename_i hio
    cases hl : nox (dcLp g.ios vs ft tt fk fe ds (wipeE ρ1 vs) []) with
    | stuck => rw [hl] at q; exact q.elim
    | exc c ρ' => exact (nox_noexc hl).elim
    | ok r =>
      rw [hl] at q
      obtain ⟨out, ρ9⟩ := r
      have hl := nox_ok hl
      intro H1 E1 R1 J it D hD
      obtain ⟨G, Y, w, g1, gs, y⟩ := it
      have smD : Same H1 (upd H1 D (.dK [])) := new_tup (K := X.K) hD
      refine dc_it w (fun i H2 => G H2 ∧ Ext H1 H2 ∧ ∃ ρi acc vacc, ER X.K g ρi (wipe σ vs) H2 ∧ ¬ Own ρi (wipe σ vs) D ∧ H2 D = some (.dK vacc) ∧ ImmK X.K H2 acc vacc ∧ dcLp g.ios vs ft tt fk fe (ds.drop i) ρi acc = .ok (out, ρ9)) ?_ (fun i H2 _ h => h.1) (fun i x H2 H3 hi h hy => ?_) (fun H2 h => ?_)
      · refine ⟨gs _ _ (Ext.of_same smD) g1, Ext.of_same smD, wipeE ρ1 vs, [], [], (R1.wipe hio).same smD, fun o => not_own R1 hD (own_wipe o), upd_same, rfl, hl⟩
      · obtain ⟨g2, E2, ρi, acc, vacc, Ri, no, hDi, im, hl2⟩ := h
        obtain ⟨sm, d, hd, imd⟩ := y i H2 x H3 hi g2 hy
        have hdrop : ds.drop i = d :: ds.drop (i + 1) := by
          have e1 := List.drop_eq_getElem_cons hi
          rw [List.getElem?_eq_getElem hi] at hd
          rw [e1, Option.some.inj hd]
        rw [hdrop] at hl2
        obtain ⟨ρ2, h2, hl3⟩ := bind_is hl2
        have h2 := liftO_is h2
        obtain ⟨p, h3, hl4⟩ := bind_is hl3
        have Ri3 := Ri.same sm
        have hD3 : H3 D = some (.dK vacc) := sm _ _ hDi
        have Rb : ER X.K (g.blk scope (hold ρi (wipe σ vs) H3)) ρi (wipe σ vs) H3 := Ri3.rebase _ rfl rfl
        have hH0 : hold ρi (wipe σ vs) H3 D = some (.dK vacc) := by rw [hold_not no]; exact hD3
        have notio : ∀ p ∈ g.io, p.2 ≠ D := fun p hp z => by
          obtain ⟨h5, d', h6⟩ := Ri3.io p hp
          exact no ⟨p.1, d', h6, by rw [h5, z]⟩
        -- what a state of the block tells
        have fin : ∀ {ρ4 : Rho} {σ4 : L2.St} {H4 : Hp}, ER X.K (g.blk scope (hold ρi (wipe σ vs) H3)) ρ4 σ4 H4 → Ext H3 H4 → Chs ts (wipe σ vs) σ4 →
            H4 D = some (.dK vacc) ∧ ER X.K g (wipeE ρ4 vs) (wipe σ vs) H4 ∧ ¬ Own (wipeE ρ4 vs) (wipe σ vs) D ∧ G H4 ∧ Ext H1 H4 := fun {ρ4 σ4 H4} R4 E4 C4 => by
          have k1 : H4 D = some (.dK vacc) := R4.old D _ hH0 notio
          have k2 := (Ri3.back (g' := g.blk scope (hold ρi (wipe σ vs) H3)) rfl rfl R4).wipe hio
          have k3 : wipe σ4 vs = wipe σ vs := by rw [wipe_chs C4 hts, wipe_wipe]
          rw [k3] at k2
          refine ⟨k1, k2, fun o => ?_, gs _ _ ((Ext.of_same sm).trans E4) g2, E2.trans ((Ext.of_same sm).trans E4)⟩
          rw [← k3] at o
          obtain ⟨j, d', o1, o2⟩ := own_wipe o
          rcases R4.new j d' D o1 o2 with z | z
          · have z : hold ρi (wipe σ vs) H3 D = none := z
            rw [hH0] at z; cases z
          · exact notio _ z rfl
        refine hg (H0 := hold ρi (wipe σ vs) H3) ⟨ρi, d, Rb, imd, ?_⟩
        rw [h2]
        intro σ4 H4 C4 E4 R4
        refine ⟨by rw [wipe_chs C4 hts, wipe_wipe], ht (H0 := hold ρi (wipe σ vs) H3) ⟨ρ2, R4, ?_⟩⟩
        rw [h3]
        intro H5 E5 R5
        obtain ⟨b, ρ5⟩ := p
        cases b with
        | false =>
          obtain ⟨k1, k2, k3, k4, k5⟩ := fin R5 (E4.trans E5) C4
          refine iteF ⟨k4, k5, _, acc, vacc, k2, k3, k1, ImmK.ext ((Ext.of_same sm).trans (E4.trans E5)) _ _ im, hl4⟩
        | true =>
          obtain ⟨r, h6, hl5⟩ := bind_is hl4
          obtain ⟨kk, h7, hl6⟩ := bind_is hl5
          have h7 := liftO_is h7
          obtain ⟨r2, h8, hl7⟩ := bind_is hl6
          refine iteT (hk (H0 := hold ρi (wipe σ vs) H3) ⟨ρ5, R5, ?_⟩)
          have h6' : eF (g.blk scope (hold ρi (wipe σ vs) H3)).ios fk ρ5 = .ok r := h6
          rw [h6']
          intro H6 E6 R6 y6 im6
          refine he (H0 := hold ρi (wipe σ vs) H3) ⟨r.2, R6, ?_⟩
          have h8' : eF (g.blk scope (hold ρi (wipe σ vs) H3)).ios fe r.2 = .ok r2 := h8
          rw [h8']
          intro H7 E7 R7 v7 im7
          obtain ⟨k1, k2, k3, k4, k5⟩ := fin R7 (((E4.trans E5).trans E6).trans E7) C4
          split at hl7
          case isFalse => cases hl7
          rename_i hlen
          have im' := ImmK.ext ((Ext.of_same sm).trans (((E4.trans E5).trans E6).trans E7)) _ _ im
          refine ⟨vacc, kk, rd_key (.inl im6) h7, k1, by rw [immK_len im', sizeLine_eq]; exact hlen, ?_⟩
          have x7 : Ext H7 (upd H7 D (.dK (putK vacc kk v7))) := fun b ob hb => by
            by_cases hba : b = D
            · subst hba
              rw [k1] at hb; cases hb
              exact ⟨fun xs e => (by cases e), fun _ _ e => (by cases e)⟩
            · exact ⟨fun _ _ => by rw [upd_ne hba]; exact hb, fun _ _ _ => by rw [upd_ne hba]; exact hb⟩
          have h0D : g.H0 D = none := not_old R1 hD
          refine ⟨gs _ _ x7 k4, k5.trans x7, _, gPut false acc [kk] r.1 r2.1, putK vacc kk v7, k2.but (a := D) x7 (fun b ob hb hh => by rw [upd_ne hb]; exact hh) k3 h0D, k3, upd_same, ImmK.ext x7 _ _ (immK_put h7 im7 im'), hl7⟩
      · obtain ⟨g2, E2, ρi, acc, vacc, Ri, no, hDi, im, hl2⟩ := h
        rw [List.drop_length] at hl2
        cases hl2
        have R9 := R1.unwipe Ri E2 hio
        exact q H2 (E1.trans E2) R9 _ ⟨D, rfl, ⟨vacc, hDi, im⟩, fun o => no (own_unwipe o), not_old R1 hD⟩
theorem e_dc {scope : Scope} {own : List (Str × Nat)} {ts vs : List Nat} {fi : Ix} {ft : Gx} {tt : Tx} {fk fe : Ex} (nd : g.N.Nodup) (ok : blkC g.N g.sc scope own = true) (hvs : own.map (·.2) = vs) (hts : (ts.all fun i => vs.contains i) = true) (hi : IOk g tg iter fi)
    (hg : ∀ H0, GOk (g.blk scope H0) tg ts ft) (ht : ∀ H0, TsOk (g.blk scope H0) ifs tt) (hk : ∀ H0, EOk (g.blk scope H0) kx fk) (he : ∀ H0, EOk (g.blk scope H0) elt fe) (hs : ∀ env x, foldedSetIterable iter env x = pure x := by intro _ _; rfl) :
    EOk g (.DictComp kx elt [⟨tg, iter, ifs, 0⟩] scope pos) (eDc g.ios vs fi ft tt fk fe) := fun X W A tk => by
  subst hvs
  have hts' : ∀ i ∈ ts, i ∈ own.map (·.2) := fun i hi => by simpa using List.all_eq_true.mp hts i hi
  have key := pe_dc (g := fun v σ H Q => ∃ H0, tGx X.K (g.blk scope H0) ts ft v σ H Q) (tt := fun σ H Q => ∃ H0, tT X.K (g.blk scope H0) tt (fun _ _ _ _ => False) σ H Q) (tk := fun σ H Q => ∃ H0, tF X.K (g.blk scope H0) fk (fun _ _ _ _ => False) σ H Q) (tv := fun σ H Q => ∃ H0, tF X.K (g.blk scope H0) fe (fun _ _ _ _ => False) σ H Q)
    (own := own) (scope := scope) (pos := pos) A.calm (by rw [A.N]; exact nd) (hi X W A tk) (by rw [A.N, A.sc]; exact blkOk_by ok)
    (fun s H C cl fp => ⟨fun pins s σ H v u Q I r ⟨H0, q⟩ => ((hg H0) _ A.blk).run pins s σ H v u Q I r q⟩)
    (fun s H C cl fp => ⟨fun pins s σ H Q I ⟨H0, q⟩ => ((ht H0) _ _ A.blk takes0).run pins s σ H Q I q⟩)
    (fun s H C cl fp => ⟨fun pins s σ H Q I ⟨H0, q⟩ => ((hk H0).f A.blk takes0).run pins s σ H Q I q⟩)
    (fun s H C cl fp => ⟨fun pins s σ H Q I ⟨H0, q⟩ => ((he H0).f A.blk takes0).run pins s σ H Q I q⟩) (hs _)
  exact PE.imp key fun σ H Q t => read_dc (scope := scope) (own := own) A hts' (fun {v σ2 H2 Q H0} h => ⟨H0, h⟩) (fun {σ2 H2 Q H0} h => ⟨H0, h⟩) (fun {σ2 H2 Q H0} h => ⟨H0, h⟩) (fun {σ2 H2 Q H0} h => ⟨H0, h⟩) t
theorem swD_true {scope : Scope} {gs : List Comprehension} {py : Pos} {y : Str} {l : Nat} {env : Env} (hk : env.scope.kind = .function) (hy : env.scope.names.lookup y = some .local) (hl : (py.line == pos.line) = true)
    (ha : (scope.names.any fun (n, k) => n == y && (k == .local || k == .cell)) = false) : swapsWith (.DictComp kx elt gs scope pos) (some (.Name y py)) l env = pure true := by
  have ky : env.kindOf y = some .local := hy
  have hb : env.blockKind = .function := by unfold Env.blockKind; rw [hk]; rfl
  unfold swapsWith
  simp only [hb, ky, ha, Expr.pos, hl]
  rfl
theorem swD_cell {scope : Scope} {gs : List Comprehension} {py : Pos} {y : Str} {l : Nat} {env : Env} (hy : env.scope.names.lookup y = some .cell) : swapsWith (.DictComp kx elt gs scope pos) (some (.Name y py)) l env = pure false := by
  have ky : env.kindOf y = some .cell := hy
  unfold swapsWith
  simp only [ky]
  cases env.blockKind <;> rfl
theorem swD_line {scope : Scope} {gs : List Comprehension} {py : Pos} {y : Str} {l : Nat} {env : Env} (hl : (py.line == pos.line) = false) : swapsWith (.DictComp kx elt gs scope pos) (some (.Name y py)) l env = pure false := by
  unfold swapsWith
  simp only [Expr.pos, hl]
  cases env.blockKind <;> cases env.kindOf y <;> simp
theorem ps_setDc {i : Nat} {y : Str} {py : Pos} {scope : Scope} {own : List (Str × Nat)} {spos : Pos} {wi : TI} {g : TG} {tt : TT} {tk tv : TE} (hc : X.calm = true) (hN : X.N.Nodup) (hy : X.N[i]? = some y) (hyl : X.env.scope.names.lookup y = some .local)
    (hsw : swapsWith (.DictComp kx elt [⟨tg, iter, ifs, 0⟩] scope pos) (some (.Name y py)) spos.line X.env = pure true) (hi : PI X tg iter wi) (ok : BlkOk X.N X.env.scope scope own)
    (hg : ∀ (s : Shared) (H : Hp) (C : Addr) (cl : List (Str × Addr)) (fp : List Addr), PG (X.blk s H scope (compEnvC scope cl C X.env) fp) tg g) (ht : ∀ (s : Shared) (H : Hp) (C : Addr) (cl : List (Str × Addr)) (fp : List Addr), PTs (X.blk s H scope (compEnvC scope cl C X.env) fp) ifs tt)
    (hk : ∀ (s : Shared) (H : Hp) (C : Addr) (cl : List (Str × Addr)) (fp : List Addr), PE (X.blk s H scope (compEnvC scope cl C X.env) fp) kx tk)
    (he : ∀ (s : Shared) (H : Hp) (C : Addr) (cl : List (Str × Addr)) (fp : List Addr), PE (X.blk s H scope (compEnvC scope cl C X.env) fp) elt tv) (hs : ∀ x, foldedSetIterable iter X.env x = pure x := by intro _; rfl) :
    PS X (.Assign [.Name y py] (.DictComp kx elt [⟨tg, iter, ifs, 0⟩] scope pos) spos) (tAsg (tDc wi g tt tk tv (own.map (·.2))) (gName i)) := by
  refine ⟨fun pins s σ H D I h => ?_⟩
  rw [exec_Assign_Name_used _ _ _ _ hsw]
  refine wpAny_bind (wpAny_standAt (wpAny_bind ?_))
  show wpAny _ X.A (do let _ ← comprehension (.DictComp kx elt [⟨tg, iter, ifs, 0⟩] scope pos) scope X.env (firstIterPos [⟨tg, iter, ifs, 0⟩] pos) newDict false (eval iter X.env) (some (assign (.Name y py) X.env))) _ _ s
  have h : tDc wi g tt tk tv (own.map (·.2)) σ H (fun x H1 => gName i x σ H1 D.nx) := h
  refine wpAny_bind (thn (dc_core (Qf := fun _ s' => SP X pins D .next s') hc hN I hi ok hg ht hk he hs h fun L C s' m H' I' q hn f => ?_) fun _ s' hq => wpAny_pure (wpAny_pure hq))
  show wpAny _ _ (assign (.Name y py) X.env (.ref L)) _ _ _
  refine wpAny_assign_Name (store_ok2 (v := V.ref L) I' hN hy (.inl hyl) rfl (fun s2 I2 ⟨a, sb, ha⟩ => ?_) (.inr hyl))
  obtain ⟨f0, f1, f2, f3, f4, f5⟩ := f
  have haC : C ≠ a := by
    rcases ha with z | z
    · rw [z]; exact f1
    · exact fun e => f4 y a z e.symm
  refine ⟨m, hn.sameBut sb haC, fun h3 sb3 => ?_⟩
  exact ⟨_, H', I2.turned (t' := s2.toks) (fun b o hb e => (sb3.2 b hb).trans e) f0 f1 f3 f4 f5, q⟩
theorem s_dc {x : Str} {i : Nat} {py spos : Pos} {scope : Scope} {own : List (Str × Nat)} {ts vs : List Nat} {fi : Ix} {ft : Gx} {tt : Tx} {fk fe : Ex} (sl : Slot g x i) (hloc : g.sc.names.lookup x = some .local) (hline : (py.line == pos.line) = true) (hown : (scope.names.any fun (n, k) => n == x && (k == .local || k == .cell)) = false)
    (hkind : g.sc.kind = .function) (ok : blkC g.N g.sc scope own = true) (hvs : own.map (·.2) = vs) (hts : (ts.all fun i => vs.contains i) = true) (hi : IOk g tg iter fi)
    (hg : ∀ H0, GOk (g.blk scope H0) tg ts ft) (ht : ∀ H0, TsOk (g.blk scope H0) ifs tt) (hk : ∀ H0, EOk (g.blk scope H0) kx fk) (he : ∀ H0, EOk (g.blk scope H0) elt fe) (hs : ∀ env x, foldedSetIterable iter env x = pure x := by intro _ _; rfl) :
    SOk g (.Assign [.Name x py] (.DictComp kx elt [⟨tg, iter, ifs, 0⟩] scope pos) spos) (sSet g.ios i (eDc g.ios vs fi ft tt fk fe)) := fun X W A tk => by
  subst hvs
  have hts' : ∀ i ∈ ts, i ∈ own.map (·.2) := fun i hi => by simpa using List.all_eq_true.mp hts i hi
  have key := ps_setDc (i := i) (y := x) (py := py) (spos := spos) (g := fun v σ H Q => ∃ H0, tGx X.K (g.blk scope H0) ts ft v σ H Q) (tt := fun σ H Q => ∃ H0, tT X.K (g.blk scope H0) tt (fun _ _ _ _ => False) σ H Q) (tk := fun σ H Q => ∃ H0, tF X.K (g.blk scope H0) fk (fun _ _ _ _ => False) σ H Q) (tv := fun σ H Q => ∃ H0, tF X.K (g.blk scope H0) fe (fun _ _ _ _ => False) σ H Q)
    (own := own) (scope := scope) (pos := pos) A.calm (by rw [A.N]; exact sl.nd) (by rw [A.N]; exact sl.ix) (by rw [A.sc]; exact hloc) (swD_true (by rw [A.sc]; exact hkind) (by rw [A.sc]; exact hloc) hline hown) (hi X W A.toAt tk) (by rw [A.N, A.sc]; exact blkOk_by ok)
    (fun s H C cl fp => ⟨fun pins s σ H v u Q I r ⟨H0, q⟩ => ((hg H0) _ A.toAt.blk).run pins s σ H v u Q I r q⟩)
    (fun s H C cl fp => ⟨fun pins s σ H Q I ⟨H0, q⟩ => ((ht H0) _ _ A.toAt.blk takes0).run pins s σ H Q I q⟩)
    (fun s H C cl fp => ⟨fun pins s σ H Q I ⟨H0, q⟩ => ((hk H0).f A.toAt.blk takes0).run pins s σ H Q I q⟩)
    (fun s H C cl fp => ⟨fun pins s σ H Q I ⟨H0, q⟩ => ((he H0).f A.toAt.blk takes0).run pins s σ H Q I q⟩) (hs _)
  refine PS.imp key fun D σ H ⟨ρ, R, q⟩ => ?_
  refine read_dc (scope := scope) (own := own) (W := W) A.toAt hts' (fun {v σ2 H2 Q H0} h => ⟨H0, h⟩) (fun {σ2 H2 Q H0} h => ⟨H0, h⟩) (fun {σ2 H2 Q H0} h => ⟨H0, h⟩) (fun {σ2 H2 Q H0} h => ⟨H0, h⟩) ⟨ρ, R, ?_⟩
  unfold sSet eBd at q
  cases hf : eDc g.ios (own.map (·.2)) fi ft tt fk fe ρ with
  | stuck => rw [hf] at q; exact q.elim
  | exc c ρ1 => rw [hf] at q; exact fun cls H' R' x m => q cls σ H' x R' m
  | ok p =>
    obtain ⟨s, ρ1⟩ := p
    rw [hf] at q
    have hso : ∃ d, s = .o d := by
      unfold eDc at hf
      obtain ⟨p1, _, h2⟩ := bind_is hf
      split at h2
      · obtain ⟨p3, _, h4⟩ := bind_is h2
        cases h4
        exact ⟨_, rfl⟩
      · cases h2
    obtain ⟨d, rfl⟩ := hso
    intro H1 E1 R1 x sr
    have q : PsS X.K g H W D (if i ∈ g.ios then .stuck else .ok (.next (ρ1.set i (some (.o d))))) := q
    split at q
    · exact q.elim
    · rename_i hio
      exact q _ H1 E1 (R1.set (s := .o d) sr hio)
end
/-! equations -/
@[simp] theorem x_eDc (l vs : List Nat) (fi : Ix) (ft : Gx) (tt : Tx) (fk fe : Ex) (ρ : Rho) : eDc l vs fi ft tt fk fe ρ = (fi ρ >>= fun p => if (∀ i ∈ vs, i ∉ l) then nox (dcLp l vs ft tt fk fe p.1 (wipeE p.2 vs) []) >>= fun q => .ok (.o (.dic false q.1), unwipe vs p.2 q.2) else .stuck) := (rfl)
end PL

/-! code that is not reached: a reckoning that is stuck tells nothing -/
namespace PL
open PySem PySem.Spec PyProof.Rows L2
def sStk : Sx := fun _ => .stuck
theorem s_stk {g : Cf} {st : Stmt} : SOk g st sStk := fun X W A t => ⟨fun pins s σ H D I ⟨ρ, R, q⟩ => q.elim⟩
/-! dict comprehensions in goals: no filter, keys that are different texts -/
section
variable {α β : Type}
def DTurn (l vs : List Nat) (ft : Gx) (fk fe : Ex) (d : D) (ρ : Rho) (z : Str) (g : D) : Prop :=
  ∃ ρ1 ρ2 ρ3, ft d ρ = some ρ1 ∧ eF l fk ρ1 = .ok (.str z, ρ2) ∧ eF l fe ρ2 = .ok (g, ρ3) ∧ wipeE ρ3 vs = ρ
theorem gGet_none {z : Str} : ∀ {kvs : List (D × D)}, (∀ p ∈ kvs, ∃ y, p.1 = .str y ∧ y ≠ z) → gGet false kvs [.inr z] = none
  | [], _ => by simp [gGet]
  | p :: r, h => by
    obtain ⟨y, e, ne⟩ := h p (List.mem_cons_self ..)
    rw [gGet_neg (by rw [e]; simp [kOf, keyD, ne])]
    exact gGet_none fun q hq => h q (List.mem_cons_of_mem _ hq)
theorem gPut_new {kvs : List (D × D)} {z : Str} {v : D} (h : ∀ p ∈ kvs, ∃ y, p.1 = .str y ∧ y ≠ z) : gPut false kvs [.inr z] (.str z) v = kvs ++ [(.str z, v)] := by
  simp [gPut, gGet_none h]
theorem dc_go {l vs : List Nat} {ft : Gx} {fk fe : Ex} {h : β → D} {ρ : Rho} (kk : β → Str) (vv : β → D) : ∀ (xs : List β) (acc : List β), acc.length + xs.length ≤ 16777216 → ((acc ++ xs).map kk).Nodup → (∀ x, x ∈ xs → DTurn l vs ft fk fe (h x) ρ (kk x) (vv x)) →
    dcLp l vs ft tsNo fk fe (xs.map h) ρ (acc.map fun x => (.str (kk x), vv x)) = .ok ((acc ++ xs).map fun x => (.str (kk x), vv x), ρ)
  | [], acc, _, _, _ => by rw [List.append_nil]; rfl
  | x :: xs, acc, hl, hn, hs => by
    obtain ⟨ρ1, ρ2, ρ3, e1, e2, e3, e4⟩ := hs x (List.mem_cons_self ..)
    rw [List.length_cons] at hl
    have ih := dc_go (l := l) (vs := vs) (ft := ft) (fk := fk) (fe := fe) (h := h) (ρ := ρ) kk vv xs (acc ++ [x]) (by simp; omega) (by simpa using hn) (fun y hy => hs y (List.mem_cons_of_mem _ hy))
    have hp : gPut false (acc.map fun x => (D.str (kk x), vv x)) [.inr (kk x)] (.str (kk x)) (vv x) = (acc ++ [x]).map fun x => (D.str (kk x), vv x) := by
      rw [gPut_new]
      · simp
      · rintro p hp
        obtain ⟨y, hy, rfl⟩ := List.mem_map.mp hp
        have hn' := hn
        rw [List.map_append, List.nodup_append] at hn'
        exact ⟨_, rfl, hn'.2.2 (kk y) (List.mem_map_of_mem hy) (kk x) (by simp)⟩
    rw [List.map_cons, dcLp, e1]
    have ha : (acc.map fun x => (D.str (kk x), vv x)).length < 16777216 := by rw [List.length_map]; omega
    have k1 : keyD (.str (kk x)) = some (.inr (kk x)) := rfl
    simp only [liftO_some, bind_ok, tsNo, e2, e3, e4, k1, ha, hp, if_true]
    simpa using ih
theorem dc_P {l vs : List Nat} {ft : Gx} {fk fe : Ex} {h : β → D} {k : List (D × D) × Rho → Out α} {w : Wit k} {P : Out α → Prop} {ds : List D} {ρ : Rho} (xs : List β) (kk : β → Str) (vv : β → D) (hd : ds = xs.map h) (hl : xs.length ≤ 16777216) (hn : (xs.map kk).Nodup)
    (hs : ∀ x, x ∈ xs → DTurn l vs ft fk fe (h x) ρ (kk x) (vv x)) (he : P (k (xs.map (fun x => (.str (kk x), vv x)), ρ))) : P (bnd k w (nox (dcLp l vs ft tsNo fk fe ds ρ []))) := by
  subst hd
  have := dc_go (l := l) (vs := vs) (ft := ft) (fk := fk) (fe := fe) (h := h) (ρ := ρ) kk vv xs [] (by simpa using hl) (by simpa using hn) hs
  rw [List.map_nil] at this
  rw [this]
  exact he
theorem dc_b {l vs : List Nat} {ft : Gx} {fk fe : Ex} {h : β → D} {k : List (D × D) × Rho → Out α} {w : Wit k} {o : Out α} {ds : List D} {ρ : Rho} (xs : List β) (kk : β → Str) (vv : β → D) (hd : ds = xs.map h) (hl : xs.length ≤ 16777216) (hn : (xs.map kk).Nodup)
    (hs : ∀ x, x ∈ xs → DTurn l vs ft fk fe (h x) ρ (kk x) (vv x)) (he : k (xs.map (fun x => (.str (kk x), vv x)), ρ) = o) : bnd k w (nox (dcLp l vs ft tsNo fk fe ds ρ [])) = o := dc_P (P := (· = o)) xs kk vv hd hl hn hs he
end
theorem gGet_map {β : Type} (kk : β → Str) (vv : β → D) (z : Str) : ∀ xs : List β, gGet false (xs.map fun x => (D.str (kk x), vv x)) [.inr z] = ((xs.find? fun x => decide (kk x = z)).map vv)
  | [] => by simp [gGet]
  | x :: xs => by
    have ih := gGet_map kk vv z xs
    by_cases e : kk x = z
    · rw [List.map_cons, gGet_pos (by simp [kOf, keyD, e])]
      simp [e]
    · rw [List.map_cons, gGet_neg (by simp [kOf, keyD, e]), ih]
      simp [e]
/-! comprehensions whose turns change the state, and whose items are told by the state -/
section
variable {α β : Type}
def LVE (vs : List Nat) (G : D → Rho → Prop) : Out (D × Rho) → Prop
  | .ok (v, ρ3) => G v (wipeE ρ3 vs)
  | _ => False
def LTE (l vs : List Nat) (fe : Ex) (G : D → Rho → Prop) : Out (Bool × Rho) → Prop
  | .ok (b, ρ2) => b = true ∧ LVE vs G (eF l fe ρ2)
  | _ => False
section
variable {l vs : List Nat} {fe : Ex} {G : D → Rho → Prop} {ρ : Rho} {b : Bool} {v : D}
@[simp] theorem x_LVE : LVE vs G (.ok (v, ρ)) = G v (wipeE ρ vs) := (rfl)
@[simp] theorem x_LTE : LTE l vs fe G (.ok (b, ρ)) = (b = true ∧ LVE vs G (eF l fe ρ)) := (rfl)
end
theorem lmE_go {l vs : List Nat} {ft : Gx} {fe : Ex} {h : β → D} (all : List β) (J : Nat → List D → Rho → Prop) (hs : ∀ i x acc ρ, all[i]? = some x → J i acc ρ → LTE l vs fe (fun g ρ' => J (i + 1) (acc ++ [g]) ρ') (bnd tsNo () (liftO (ft (h x) ρ)))) :
    ∀ (xs : List β) (n : Nat) (acc : List D) (ρ : Rho), all.drop n = xs → n + xs.length = all.length → acc.length + xs.length ≤ 16777216 → J n acc ρ → ∃ acc' ρ', lcLp l vs ft tsNo fe (xs.map h) ρ acc = .ok (acc', ρ') ∧ J all.length acc' ρ'
  | [], n, acc, ρ, _, hn, _, hj => ⟨acc, ρ, rfl, by rw [← hn]; exact hj⟩
  | x :: xs, n, acc, ρ, e, hn, hl, hj => by
    have hx : all[n]? = some x := by
      have := congrArg (fun l => l[0]?) e
      simpa using this
    have s := hs n x acc ρ hx hj
    have e' : all.drop (n + 1) = xs := by rw [← List.drop_drop, e]; rfl
    rw [List.length_cons] at hn hl
    have ih := fun acc' ρ' hl' => lmE_go (l := l) (vs := vs) (ft := ft) (fe := fe) (h := h) all J hs xs (n + 1) acc' ρ' e' (by omega) hl'
    rw [List.map_cons, lcLp]
    cases e1 : ft (h x) ρ with
    | none => rw [e1] at s; exact s.elim
    | some ρ1 =>
      rw [e1] at s
      have s : LTE l vs fe (fun g ρ' => J (n + 1) (acc ++ [g]) ρ') (tsNo ρ1) := s
      rw [liftO_some, bind_ok]
      cases e2 : tsNo ρ1 with
      | stuck => rw [e2] at s; exact s.elim
      | exc c' ρ' => rw [e2] at s; exact s.elim
      | ok p =>
        obtain ⟨b, ρ2⟩ := p
        rw [e2] at s
        obtain ⟨hb, s⟩ := s
        subst hb
        rw [bind_ok]
        cases e3 : eF l fe ρ2 with
        | stuck => rw [e3] at s; exact s.elim
        | exc c' ρ' => rw [e3] at s; exact s.elim
        | ok p =>
          obtain ⟨v, ρ3⟩ := p
          rw [e3] at s
          obtain ⟨a', ρ', h1, h2⟩ := ih (acc ++ [v]) (wipeE ρ3 vs) (by rw [List.length_append, List.length_singleton]; omega) s
          refine ⟨a', ρ', ?_, h2⟩
          rw [if_pos rfl, bind_ok, if_pos (by omega), h1]
theorem lmE_P {l vs : List Nat} {ft : Gx} {fe : Ex} {h : β → D} {k : List D × Rho → Out α} {w : Wit k} {P : Out α → Prop} {ds : List D} {ρ : Rho} (xs : List β) (J : Nat → List D → Rho → Prop) (hd : ds = xs.map h) (hl : xs.length ≤ 16777216) (h0 : J 0 [] ρ)
    (hs : ∀ i x acc ρ, xs[i]? = some x → J i acc ρ → LTE l vs fe (fun g ρ' => J (i + 1) (acc ++ [g]) ρ') (bnd tsNo () (liftO (ft (h x) ρ)))) (he : ∀ acc ρ, J xs.length acc ρ → P (k (acc, ρ))) : P (bnd k w (nox (lcLp l vs ft tsNo fe ds ρ []))) := by
  subst hd
  obtain ⟨a, ρ', h1, h2⟩ := lmE_go xs J hs xs 0 [] ρ rfl (by omega) (by simpa using hl) h0
  rw [h1]
  exact he a ρ' h2
theorem lmE_v {Q : α → Prop} {l vs : List Nat} {ft : Gx} {fe : Ex} {h : β → D} {k : List D × Rho → Out α} {w : Wit k} {ds : List D} {ρ : Rho} (xs : List β) (J : Nat → List D → Rho → Prop) (hd : ds = xs.map h) (hl : xs.length ≤ 16777216) (h0 : J 0 [] ρ)
    (hs : ∀ i x acc ρ, xs[i]? = some x → J i acc ρ → LTE l vs fe (fun g ρ' => J (i + 1) (acc ++ [g]) ρ') (bnd tsNo () (liftO (ft (h x) ρ)))) (he : ∀ acc ρ, J xs.length acc ρ → Ev (k (acc, ρ)) Q) : Ev (bnd k w (nox (lcLp l vs ft tsNo fe ds ρ []))) Q := lmE_P (P := (Ev · Q)) xs J hd hl h0 hs he
theorem lmE_a {J' : Rho → Prop} {k' : Fl → Out α} {P' : Out α → Prop} {l vs : List Nat} {ft : Gx} {fe : Ex} {h : β → D} {k : List D × Rho → Out Fl} {w : Wit k} {ds : List D} {ρ : Rho} (xs : List β) (J : Nat → List D → Rho → Prop) (hd : ds = xs.map h) (hl : xs.length ≤ 16777216) (h0 : J 0 [] ρ)
    (hs : ∀ i x acc ρ, xs[i]? = some x → J i acc ρ → LTE l vs fe (fun g ρ' => J (i + 1) (acc ++ [g]) ρ') (bnd tsNo () (liftO (ft (h x) ρ)))) (he : ∀ acc ρ, J xs.length acc ρ → Aft J' k' P' (k (acc, ρ))) : Aft J' k' P' (bnd k w (nox (lcLp l vs ft tsNo fe ds ρ []))) := lmE_P (P := Aft J' k' P') xs J hd hl h0 hs he
end
end PL

namespace K68
open PL PySem
def c_DIGITS : D := .str "0123456789"
def c_LAST_DUE : D := .int 2000
def c_LETTERS : D := .str "abcdefghijklmnopqrstuvwxyz"
def c_MOST_DAYS : D := .int 100
def c_MOST_TASKS : D := .int 16
def b__law_numbers_c1 : Ex := eB dAbs (aCons (eVar 6) (aNil))
def b__law_numbers_f2 : Sx := sSeq (sSet [] 6 (eC (.int 0))) (sSeq (sSet [] 7 (eC (.int 0))) (sSeq (sIf (t2 dGt (eB dLen1 (aCons (eVar 2) (aNil))) (eC (.int 0))) (sSeq (sSet [] 7 (e2 dMod (eB dInt1 (aCons (eVar 5) (aNil))) (eB dLen1 (aCons (eVar 2) (aNil))))) (sSet [] 6 (e2 dIx (eVar 2) (eVar 7)))) (sNil)) (sIf (t2 dGe (eVar 6) (eC (.int 1000000000000000000))) (sSeq (sEx (eMl [] 3 mAppend (aCons (e2 dMod (eB dInt1 (aCons (eVar 6) (aNil))) (eC (.int 1000000))) (aNil)))) (sAsg [] (e2 dDiv (eVar 6) (eC (.int 1000000))) (gSb 2 (eVar 7)))) (sSeq (sSet [] 4 (e2 dMod (eB dInt1 (aCons (e2 dAdd (e2 dAdd (e2 dAdd (e2 dMul (eVar 4) (eVar 4)) (e2 dMul (eVar 6) (eC (.int 69621)))) (e2 dMul (eVar 5) (eC (.int 48271)))) (eC (.int 11))) (aNil))) (eC (.int 2147483647)))) (sEx (eMl [] 3 mAppend (aCons (e2 dMod (eB dInt1 (aCons (e2 dDiv (eVar 4) (eC (.int 97))) (aNil))) (eC (.int 1000000))) (aNil))))))))
def b__law_numbers : Sx := sSeq (sSet [] 2 (eLc [] [6] (iVal [] (eSl (eVar 0) (pNo) (pSo (eC (.int 63))))) (gNm [] 6) (tsNo) b__law_numbers_c1)) (sSeq (sSet [] 3 (eLst [] (aNil))) (sSeq (sSet [] 4 (eC (.int 88172645))) (sSeq (sFor (iRg1 (aCons (eVar 1) (aNil))) (gNm [] 5) b__law_numbers_f2) (sRet [] (eVar 3)))))
def m__law_numbers : Fn := runF 6 b__law_numbers
def b__law_name_f1 : Sx := sSeq (sSet [] 2 (e2 dAdd (eVar 2) (e2 dIx (eVar 1) (e2 dMod (eB dInt1 (aCons (eVar 3) (aNil))) (eC (.int 36)))))) (sSet [] 3 (e2 dAdd (e2 dDiv (eVar 3) (eC (.int 3))) (e2 dMul (eC (.int 11)) (eVar 5))))
def b__law_name : Sx := sSeq (sSet [] 1 (eC (.str "abcdefghijklmnopqrstuvwxyz0123456789"))) (sSeq (sSet [] 2 (e2 dIx (eVar 1) (e2 dMod (eB dInt1 (aCons (eVar 0) (aNil))) (eC (.int 26))))) (sSeq (sSet [] 3 (e2 dDiv (eVar 0) (eC (.int 26)))) (sSeq (sSet [] 4 (e2 dMod (eB dInt1 (aCons (eVar 3) (aNil))) (eC (.int 8)))) (sSeq (sSet [] 3 (e2 dDiv (eVar 3) (eC (.int 8)))) (sSeq (sFor (iRg1 (aCons (eVar 4) (aNil))) (gNm [] 5) b__law_name_f1) (sRet [] (eVar 2)))))))
def m__law_name : Fn := runF 5 b__law_name
def b__law_pool_f1 : Sx := sSeq (sSet [] 3 (eCall [] 1 m__law_name (aCons (eVar 2) (aNil)))) (sIf (t2 dNotIn (eVar 3) (eVar 1)) (sEx (eMl [] 1 mAppend (aCons (eVar 3) (aNil)))) (sNil))
def b__law_pool : Sx := sSeq (sSet [] 1 (eLst [] (aNil))) (sSeq (sFor (iVal [] (eVar 0)) (gNm [] 2) b__law_pool_f1) (sRet [] (eVar 1)))
def m__law_pool : Fn := runF 3 b__law_pool
def b__law_earliest_f1 : Sx := sSeq (sAsg [] (eVar 5) (gSb 1 (eVar 4))) (sAsg [] (eC (.int 0)) (gSb 2 (eVar 4)))
def b__law_earliest_f2 : Sx := sIf (t2 dLt (e2 dIx (eVar 2) (eVar 4)) (e2 dAdd (e2 dIx (eVar 2) (eVar 8)) (e2 dIx (eVar 1) (eVar 8)))) (sSeq (sAsg [] (e2 dAdd (e2 dIx (eVar 2) (eVar 8)) (e2 dIx (eVar 1) (eVar 8))) (gSb 2 (eVar 4))) (sSet [] 7 (eC (.bl true)))) (sNil)
def b__law_earliest_f3 : Sx := sFor (iVal [] (eVar 6)) (gNm [] 8) b__law_earliest_f2
def b__law_earliest_f4 : Sx := sSeq (sSet [] 7 (eC (.bl false))) (sSeq (sFor (iVal [] (eVar 0)) (gTp 3 (gsCons (gNm [] 4) (gsCons (gNm [] 5) (gsCons (gNm [] 6) (gsNil))))) b__law_earliest_f3) (sIf (tNot (tTru (eVar 7))) (sRet [] (eVar 2)) (sNil)))
def b__law_earliest : Sx := sSeq (sSet [] 1 (eDNew false)) (sSeq (sSet [] 2 (eDNew false)) (sSeq (sFor (iVal [] (eVar 0)) (gTp 3 (gsCons (gNm [] 4) (gsCons (gNm [] 5) (gsCons (gNm [] 6) (gsNil))))) b__law_earliest_f1) (sSeq (sFor (iRg1 (aCons (e2 dAdd (eB dLen1 (aCons (eVar 0) (aNil))) (eC (.int 1))) (aNil))) (gNm [] 3) b__law_earliest_f4) (sRet [] (eC .non)))))
def m__law_earliest : Fn := runF 8 b__law_earliest
def b__law_due_c1 : Ex := e2 dAdd (e2 dIx (eVar 2) (e2 dIx (eVar 5) (eC (.int 0)))) (e2 dIx (eVar 5) (eC (.int 1)))
def b__law_due : Sx := sSeq (sSet [] 2 (eCall [] 1 m__law_earliest (aCons (eVar 0) (aNil)))) (sSeq (sSet [] 3 (e2 dMod (eB dInt1 (aCons (eVar 1) (aNil))) (eC (.int 6)))) (sSeq (sSet [] 4 (e2 dMod (eB dInt1 (aCons (e2 dDiv (eVar 1) (eC (.int 6))) (aNil))) (eC (.int 2001)))) (sSeq (sIf (tAnd (t2 dIsNot (eVar 2) (eC .non)) (t2 dLt (eVar 3) (eC (.int 4)))) (sSeq (sSet [] 4 (eB dMax (aCons (e2 dAdd (eLc [] [5] (iVal [] (eVar 0)) (gNm [] 5) (tsNo) b__law_due_c1) (eLst [] (aCons (eC (.int 0)) (aNil)))) (aNil)))) (sIf (tOr (t2 dEq (eVar 3) (eC (.int 1))) (tAnd (t2 dEq (eVar 3) (eC (.int 2))) (t2 dEq (eVar 4) (eC (.int 0))))) (sSet [] 4 (e2 dAdd (eVar 4) (eC (.int 1)))) (sIf (t2 dEq (eVar 3) (eC (.int 2))) (sSet [] 4 (e2 dSub (eVar 4) (eC (.int 1)))) (sIf (t2 dEq (eVar 3) (eC (.int 3))) (sSet [] 4 (e2 dAdd (eVar 4) (e2 dMod (eB dInt1 (aCons (e2 dDiv (eVar 1) (eC (.int 6))) (aNil))) (eC (.int 40))))) (sNil))))) (sNil)) (sRet [] (eB dMin (aCons (eVar 4) (aCons (eC (.int 2000)) (aNil))))))))
def m__law_due : Fn := runF 4 b__law_due
def b__law_subject_f1 : Sx := sSeq (sSet [] 11 (e2 dDiv (e2 dIx (eVar 0) (e2 dAdd (eC (.int 40)) (e2 dMod (eB dInt1 (aCons (e2 dAdd (eVar 6) (eVar 9)) (aNil))) (eC (.int 16))))) (e2 dAdd (eC (.int 1)) (e2 dMul (eC (.int 3)) (eVar 9))))) (sIf (tAnd (t2 dLt (eVar 9) (eVar 6)) (tOr (t2 dLt (e2 dMod (eB dInt1 (aCons (eVar 11) (aNil))) (eC (.int 5))) (eVar 4)) (tAnd (t2 dEq (eVar 9) (e2 dSub (eVar 6) (eC (.int 1)))) (t2 dEq (e2 dMod (eB dInt1 (aCons (e2 dDiv (e2 dIx (eVar 0) (eC (.int 17))) (eC (.int 4))) (aNil))) (eC (.int 2))) (eC (.int 0)))))) (sEx (eMl [] 8 mAppend (aCons (e2 dIx (eVar 1) (eVar 9)) (aNil)))) (sNil))
def b__law_subject_f2 : Sx := sSeq (sSet [] 7 (e2 dAdd (eC (.int 1)) (e2 dMod (eB dInt1 (aCons (e2 dIx (eVar 0) (e2 dAdd (eC (.int 20)) (eVar 6))) (aNil))) (eC (.int 4))))) (sSeq (sIf (t2 dEq (e2 dMod (eB dInt1 (aCons (e2 dDiv (e2 dIx (eVar 0) (e2 dAdd (eC (.int 20)) (eVar 6))) (eC (.int 4))) (aNil))) (eC (.int 8))) (eC (.int 0))) (sSet [] 7 (e2 dSub (eC (.int 100)) (e2 dMod (eB dInt1 (aCons (e2 dDiv (e2 dIx (eVar 0) (e2 dAdd (eC (.int 20)) (eVar 6))) (eC (.int 32))) (aNil))) (eC (.int 3))))) (sNil)) (sSeq (sSet [] 8 (eLst [] (aNil))) (sSeq (sFor (iRg1 (aCons (eVar 2) (aNil))) (gNm [] 9) b__law_subject_f1) (sSeq (sIf (tAnd (tTru (eVar 3)) (t2 dEq (e2 dMod (eB dInt1 (aCons (e2 dIx (eVar 0) (e2 dAdd (eC (.int 60)) (eVar 6))) (aNil))) (eC (.int 4))) (eC (.int 0)))) (sSeq (sSet [] 12 (e2 dIx (eVar 1) (e2 dMod (eB dInt1 (aCons (e2 dDiv (e2 dIx (eVar 0) (e2 dAdd (eC (.int 60)) (eVar 6))) (eC (.int 4))) (aNil))) (eVar 2)))) (sIf (t2 dNotIn (eVar 12) (eVar 8)) (sEx (eMl [] 8 mAppend (aCons (eVar 12) (aNil)))) (sNil))) (sNil)) (sSeq (sIf (t2 dGt (eB dLen1 (aCons (eVar 8) (aNil))) (eC (.int 0))) (sSeq (sSet [] 10 (e2 dMod (eB dInt1 (aCons (e2 dDiv (e2 dIx (eVar 0) (e2 dAdd (eC (.int 60)) (eVar 6))) (eC (.int 64))) (aNil))) (eB dLen1 (aCons (eVar 8) (aNil))))) (sSet [] 8 (e2 dAdd (eSl (eVar 8) (pSo (eVar 10)) (pNo)) (eSl (eVar 8) (pNo) (pSo (eVar 10)))))) (sNil)) (sEx (eMl [] 5 mAppend (aCons (eTup [] (aCons (e2 dIx (eVar 1) (eVar 6)) (aCons (eVar 7) (aCons (eB dTup1 (aCons (eVar 8) (aNil))) (aNil))))) (aNil)))))))))
def b__law_subject_c3 : Ex := e2 dIx (eVar 5) (e2 dSub (e2 dSub (eVar 2) (eC (.int 1))) (eVar 6))
def b__law_subject : Sx := sSeq (sSet [] 1 (eCall [] 1 m__law_pool (aCons (eSl (eVar 0) (pSo (eC (.int 0))) (pSo (e2 dMod (eB dInt1 (aCons (e2 dIx (eVar 0) (eC (.int 16))) (aNil))) (eC (.int 17))))) (aNil)))) (sSeq (sSet [] 2 (eB dLen1 (aCons (eVar 1) (aNil)))) (sSeq (sSet [] 3 (bE (t2 dEq (e2 dMod (eB dInt1 (aCons (e2 dIx (eVar 0) (eC (.int 17))) (aNil))) (eC (.int 4))) (eC (.int 0))))) (sSeq (sSet [] 4 (e2 dAdd (eC (.int 1)) (e2 dMod (eB dInt1 (aCons (e2 dIx (eVar 0) (eC (.int 18))) (aNil))) (eC (.int 3))))) (sSeq (sSet [] 5 (eLst [] (aNil))) (sSeq (sFor (iRg1 (aCons (eVar 2) (aNil))) (gNm [] 6) b__law_subject_f2) (sSeq (sIf (t2 dGt (eVar 2) (eC (.int 0))) (sSeq (sSet [] 10 (e2 dMod (eB dInt1 (aCons (e2 dIx (eVar 0) (eC (.int 19))) (aNil))) (eVar 2))) (sSet [] 5 (e2 dAdd (eSl (eVar 5) (pSo (eVar 10)) (pNo)) (eSl (eVar 5) (pNo) (pSo (eVar 10)))))) (sNil)) (sSeq (sIf (t2 dEq (e2 dMod (eB dInt1 (aCons (e2 dDiv (e2 dIx (eVar 0) (eC (.int 19))) (eC (.int 16))) (aNil))) (eC (.int 2))) (eC (.int 0))) (sSet [] 5 (eLc [] [6] (iRg1 (aCons (eVar 2) (aNil))) (gNm [] 6) (tsNo) b__law_subject_c3)) (sNil)) (sRet [] (eTup [] (aCons (eB dTup1 (aCons (eVar 5) (aNil))) (aCons (eCall [] 2 m__law_due (aCons (eB dTup1 (aCons (eVar 5) (aNil))) (aCons (e2 dIx (eVar 0) (eC (.int 80))) (aNil)))) (aNil))))))))))))
def m__law_subject : Fn := runF 12 b__law_subject
def b__law_latest_f1 : Sx := sAsg [] (e2 dSub (eVar 1) (eVar 6)) (gSb 2 (eVar 5))
def b__law_latest_f2 : Sx := sAsg [] (eVar 6) (gSb 3 (eVar 5))
def b__law_latest_f3 : Sx := sAsg [] (eB dMin (aCons (e2 dIx (eVar 2) (eVar 8)) (aCons (e2 dSub (e2 dIx (eVar 2) (eVar 5)) (e2 dIx (eVar 3) (eVar 8))) (aNil)))) (gSb 2 (eVar 8))
def b__law_latest_f4 : Sx := sFor (iVal [] (eVar 7)) (gNm [] 8) b__law_latest_f3
def b__law_latest_f5 : Sx := sFor (iVal [] (eVar 0)) (gTp 3 (gsCons (gNm [] 5) (gsCons (gNm [] 6) (gsCons (gNm [] 7) (gsNil))))) b__law_latest_f4
def b__law_latest : Sx := sSeq (sSet [] 2 (eDNew false)) (sSeq (sFor (iVal [] (eVar 0)) (gTp 3 (gsCons (gNm [] 5) (gsCons (gNm [] 6) (gsCons (gNm [] 7) (gsNil))))) b__law_latest_f1) (sSeq (sSet [] 3 (eDNew false)) (sSeq (sFor (iVal [] (eVar 0)) (gTp 3 (gsCons (gNm [] 5) (gsCons (gNm [] 6) (gsCons (gNm [] 7) (gsNil))))) b__law_latest_f2) (sSeq (sFor (iRg1 (aCons (e2 dAdd (eB dLen1 (aCons (eVar 0) (aNil))) (eC (.int 1))) (aNil))) (gNm [] 4) b__law_latest_f5) (sRet [] (eVar 2))))))
def m__law_latest : Fn := runF 7 b__law_latest
def b__law_starts_to_try_c1 : Ex := eC (.int 0)
def b__law_starts_to_try_c2 : Ex := e2 dIx (eVar 4) (e2 dIx (eVar 9) (eC (.int 0)))
def b__law_starts_to_try_c3 : Ex := e2 dDiv (e2 dAdd (e2 dIx (eVar 4) (e2 dIx (eVar 9) (eC (.int 0)))) (e2 dIx (eVar 5) (e2 dIx (eVar 9) (eC (.int 0))))) (eC (.int 2))
def b__law_starts_to_try_c4 : Ex := e2 dIx (eVar 5) (e2 dIx (eVar 9) (eC (.int 0)))
def b__law_starts_to_try_f5 : Sx := sEx (eMl [] 3 mAppend (aCons (e2 dAdd (e2 dAdd (eSl (eVar 6) (pNo) (pSo (eVar 7))) (eTup [] (aCons (e2 dAdd (e2 dIx (eVar 6) (eVar 7)) (eVar 8)) (aNil)))) (eSl (eVar 6) (pSo (e2 dAdd (eVar 7) (eC (.int 1)))) (pNo))) (aNil)))
def b__law_starts_to_try_f6 : Sx := sSeq (sFor (iVal [] (eLst [] (aCons (e1 dNeg (eC (.int 1))) (aCons (eC (.int 1)) (aCons (e1 dNeg (eC (.int 100))) (aCons (eC (.int 100)) (aNil))))))) (gNm [] 8) b__law_starts_to_try_f5) (sSeq (sEx (eMl [] 3 mAppend (aCons (e2 dAdd (eSl (eVar 6) (pNo) (pSo (eVar 7))) (eSl (eVar 6) (pSo (e2 dAdd (eVar 7) (eC (.int 1)))) (pNo))) (aNil)))) (sEx (eMl [] 3 mAppend (aCons (e2 dAdd (eSl (eVar 6) (pNo) (pSo (e2 dAdd (eVar 7) (eC (.int 1))))) (eSl (eVar 6) (pSo (eVar 7)) (pNo))) (aNil)))))
def b__law_starts_to_try : Sx := sSeq (sSet [] 3 (eLst [] (aCons (eTup [] (aNil)) (aCons (eB dTup1 (aCons (eLc [] [9] (iVal [] (eVar 0)) (gNm [] 9) (tsNo) b__law_starts_to_try_c1) (aNil))) (aNil))))) (sSeq (sSet [] 4 (eCall [] 1 m__law_earliest (aCons (eVar 0) (aNil)))) (sSeq (sSet [] 5 (eCall [] 2 m__law_latest (aCons (eVar 0) (aCons (eVar 1) (aNil))))) (sSeq (sIf (t2 dIsNot (eVar 4) (eC .non)) (sSeq (sEx (eMl [] 3 mAppend (aCons (eB dTup1 (aCons (eLc [] [9] (iVal [] (eVar 0)) (gNm [] 9) (tsNo) b__law_starts_to_try_c2) (aNil))) (aNil)))) (sEx (eMl [] 3 mAppend (aCons (eB dTup1 (aCons (eLc [] [9] (iVal [] (eVar 0)) (gNm [] 9) (tsNo) b__law_starts_to_try_c3) (aNil))) (aNil))))) (sNil)) (sSeq (sEx (eMl [] 3 mAppend (aCons (eB dTup1 (aCons (eLc [] [9] (iVal [] (eVar 0)) (gNm [] 9) (tsNo) b__law_starts_to_try_c4) (aNil))) (aNil)))) (sSeq (sSet [] 6 (e2 dIx (eVar 3) (e2 dMod (eB dInt1 (aCons (eVar 2) (aNil))) (eB dLen1 (aCons (eVar 3) (aNil)))))) (sSeq (sFor (iRg1 (aCons (eB dLen1 (aCons (eVar 6) (aNil))) (aNil))) (gNm [] 7) b__law_starts_to_try_f6) (sRet [] (eVar 3))))))))
def m__law_starts_to_try : Fn := runF 7 b__law_starts_to_try
def b__law_stranger_f1 : Sx := sIf (t2 dNotIn (e2 dAdd (eVar 1) (eC (.str "0z"))) (eVar 0)) (sRet [] (e2 dAdd (eVar 1) (eC (.str "0z")))) (sNil)
def b__law_stranger : Sx := sSeq (sFor (iVal [] (eC (.str "abcdefghijklmnopqrstuvwxyz"))) (gNm [] 1) b__law_stranger_f1) (sRet [] (eC (.str "zzzzzzzz")))
def m__law_stranger : Fn := runF 1 b__law_stranger
def b__law_walk_c1 : Ex := eVar 8
def b__law_walk_f2 : Sx := sSeq (sSet [] 7 (eLc [] [8] (iVal [] (e2 dIx (e2 dIx (eVar 0) (e2 dIx (eVar 4) (eC (.int 0)))) (eC (.int 2)))) (gNm [] 8) (t2 dNotIn (eVar 8) (eVar 4)) b__law_walk_c1)) (sSeq (sIf (tAnd (t2 dGt (eB dLen1 (aCons (eVar 7) (aNil))) (eC (.int 0))) (t2 dLt (eB dLen1 (aCons (eVar 4) (aNil))) (eVar 3))) (sSet [] 4 (e2 dAdd (eLst [] (aCons (e2 dIx (eVar 7) (e2 dMod (eB dInt1 (aCons (eVar 5) (aNil))) (eB dLen1 (aCons (eVar 7) (aNil))))) (aNil))) (eVar 4))) (sNil)) (sSet [] 5 (e2 dAdd (e2 dDiv (eVar 5) (eC (.int 3))) (eVar 6))))
def b__law_walk : Sx := sSeq (sSet [] 4 (eLst [] (aCons (eVar 1) (aNil)))) (sSeq (sSet [] 5 (eVar 2)) (sSeq (sFor (iRg1 (aCons (eC (.int 16)) (aNil))) (gNm [] 6) b__law_walk_f2) (sRet [] (eB dTup1 (aCons (eVar 4) (aNil))))))
def m__law_walk : Fn := runF 5 b__law_walk
def b__law_names_to_try_f1 : Sx := sAsg [] (eVar 3) (gSb 2 (e2 dIx (eVar 3) (eC (.int 0))))
def b__law_names_to_try_c2 : Ex := e2 dIx (eVar 3) (eC (.int 0))
def b__law_names_to_try_f3 : Sx := sSeq (sSet [] 9 (e2 dIx (eVar 1) (eVar 5))) (sSeq (sEx (eMl [] 4 mAppend (aCons (eCall [] 4 m__law_walk (aCons (eVar 2) (aCons (e2 dIx (e2 dIx (eVar 0) (eVar 5)) (eC (.int 0))) (aCons (e2 dDiv (eVar 9) (eC (.int 16))) (aCons (eC (.int 16)) (aNil)))))) (aNil)))) (sEx (eMl [] 4 mAppend (aCons (eCall [] 4 m__law_walk (aCons (eVar 2) (aCons (e2 dIx (e2 dIx (eVar 0) (eVar 5)) (eC (.int 0))) (aCons (e2 dDiv (eVar 9) (eC (.int 16))) (aCons (e2 dAdd (eC (.int 1)) (e2 dMod (eB dInt1 (aCons (eVar 9) (aNil))) (eC (.int 4)))) (aNil)))))) (aNil)))))
def b__law_names_to_try_c4 : Ex := e2 dIx (eVar 3) (eC (.int 0))
def b__law_names_to_try_f5 : Sx := sSeq (sEx (eMl [] 4 mAppend (aCons (e2 dAdd (eSl (eVar 6) (pNo) (pSo (eVar 8))) (eSl (eVar 6) (pSo (e2 dAdd (eVar 8) (eC (.int 1)))) (pNo))) (aNil)))) (sSeq (sEx (eMl [] 4 mAppend (aCons (e2 dAdd (eSl (eVar 6) (pSo (eVar 8)) (pNo)) (eSl (eVar 6) (pNo) (pSo (eVar 8)))) (aNil)))) (sSeq (sEx (eMl [] 4 mAppend (aCons (e2 dAdd (eSl (eVar 6) (pNo) (pSo (e2 dAdd (eVar 8) (eC (.int 1))))) (eSl (eVar 6) (pSo (eVar 8)) (pNo))) (aNil)))) (sSeq (sEx (eMl [] 4 mAppend (aCons (e2 dAdd (e2 dAdd (eSl (eVar 6) (pNo) (pSo (eVar 8))) (eTup [] (aCons (eVar 7) (aNil)))) (eSl (eVar 6) (pSo (e2 dAdd (eVar 8) (eC (.int 1)))) (pNo))) (aNil)))) (sEx (eMl [] 4 mAppend (aCons (eSl (eVar 6) (pNo) (pSo (eVar 8))) (aNil)))))))
def b__law_names_to_try_c6 : Ex := e2 dIx (eVar 6) (e2 dSub (e2 dSub (eB dLen1 (aCons (eVar 6) (aNil))) (eC (.int 1))) (eVar 5))
def b__law_names_to_try : Sx := sSeq (sSet [] 2 (eDNew false)) (sSeq (sFor (iVal [] (eVar 0)) (gNm [] 3) b__law_names_to_try_f1) (sSeq (sSet [] 4 (eLst [] (aCons (eTup [] (aNil)) (aCons (eB dTup1 (aCons (eLc [] [3] (iVal [] (eVar 0)) (gNm [] 3) (tsNo) b__law_names_to_try_c2) (aNil))) (aNil))))) (sSeq (sFor (iRg1 (aCons (eB dLen1 (aCons (eVar 0) (aNil))) (aNil))) (gNm [] 5) b__law_names_to_try_f3) (sSeq (sSet [] 6 (e2 dIx (eVar 4) (e2 dMod (eB dInt1 (aCons (e2 dIx (eVar 1) (eC (.int 16))) (aNil))) (eB dLen1 (aCons (eVar 4) (aNil)))))) (sSeq (sSet [] 7 (eCall [] 1 m__law_stranger (aCons (eLc [] [3] (iVal [] (eVar 0)) (gNm [] 3) (tsNo) b__law_names_to_try_c4) (aNil)))) (sSeq (sFor (iRg1 (aCons (eB dLen1 (aCons (eVar 6) (aNil))) (aNil))) (gNm [] 8) b__law_names_to_try_f5) (sSeq (sEx (eMl [] 4 mAppend (aCons (eB dTup1 (aCons (eLc [] [5] (iRg1 (aCons (eB dLen1 (aCons (eVar 6) (aNil))) (aNil))) (gNm [] 5) (tsNo) b__law_names_to_try_c6) (aNil))) (aNil)))) (sSeq (sEx (eMl [] 4 mAppend (aCons (eTup [] (aCons (eVar 7) (aNil))) (aNil)))) (sRet [] (eVar 4))))))))))
def m__law_names_to_try : Fn := runF 8 b__law_names_to_try
def b__law_wrong_shapes : Sx := sRet [] (eLst [] (aCons (eLst [] (aCons (eVar 0) (aCons (eVar 1) (aNil)))) (aCons (eTup [] (aCons (eVar 0) (aNil))) (aCons (eTup [] (aCons (eVar 0) (aCons (eVar 1) (aCons (eVar 1) (aNil))))) (aCons (eTup [] (aCons (eVar 0) (aCons (eVar 1) (aCons (eC .non) (aNil))))) (aCons (eTup [] (aCons (eVar 1) (aCons (eVar 0) (aNil)))) (aCons (eTup [] (aCons (e2 dAdd (eVar 0) (eC (.str " "))) (aCons (eVar 1) (aNil)))) (aCons (eTup [] (aCons (eC (.str "")) (aCons (eVar 1) (aNil)))) (aCons (eTup [] (aCons (eC .non) (aCons (eVar 1) (aNil)))) (aCons (eTup [] (aCons (eC (.bl true)) (aCons (eVar 1) (aNil)))) (aCons (eTup [] (aCons (eVar 0) (aCons (eC .non) (aNil)))) (aCons (eTup [] (aCons (eVar 0) (aCons (eC (.bl true)) (aNil)))) (aCons (eTup [] (aCons (eVar 0) (aCons (eVar 0) (aNil)))) (aCons (eC .non) (aCons (eC (.int 0)) (aCons (eVar 0) (aCons (eVar 1) (aCons (eTup [] (aNil)) (aNil)))))))))))))))))))
def m__law_wrong_shapes : Fn := runF 0 b__law_wrong_shapes
def b_is_tuple_of : Sx := sRet [] (eAnd (bE (tIsi (isT .tuple) (eVar 0))) (bE (tCh dLe dLe (eVar 1) (eB dLen1 (aCons (eVar 0) (aNil))) (eVar 2))))
def m_is_tuple_of : Fn := runF 0 b_is_tuple_of
def b_is_whole : Sx := sRet [] (eAnd (bE (tIsi (isT .int) (eVar 0))) (eNot (bE (tIsi (isT .bool) (eVar 0)))))
def m_is_whole : Fn := runF 0 b_is_whole
def b_is_whole_in : Sx := sRet [] (eAnd (eCall [] 1 m_is_whole (aCons (eVar 0) (aNil))) (bE (tCh dLe dLe (eVar 1) (eVar 0) (eVar 2))))
def m_is_whole_in : Fn := runF 0 b_is_whole_in
def b_is_name_f1 : Sx := sIf (tAnd (t2 dNotIn (eVar 1) (eC c_LETTERS)) (t2 dNotIn (eVar 1) (eC c_DIGITS))) (sRet [] (eC (.bl false))) (sNil)
def b_is_name : Sx := sSeq (sIf (tNot (tIsi (isT .str) (eVar 0))) (sRet [] (eC (.bl false))) (sNil)) (sSeq (sIf (tOr (t2 dLt (eB dLen1 (aCons (eVar 0) (aNil))) (eC (.int 1))) (t2 dGt (eB dLen1 (aCons (eVar 0) (aNil))) (eC (.int 8)))) (sRet [] (eC (.bl false))) (sNil)) (sSeq (sIf (t2 dNotIn (e2 dIx (eVar 0) (eC (.int 0))) (eC c_LETTERS)) (sRet [] (eC (.bl false))) (sNil)) (sSeq (sFor (iVal [] (eVar 0)) (gNm [] 1) b_is_name_f1) (sRet [] (eC (.bl true))))))
def m_is_name : Fn := runF 1 b_is_name
def b_is_names_f1 : Sx := sSeq (sIf (tOr (tNot (tTru (eCall [] 1 m_is_name (aCons (eVar 4) (aNil))))) (t2 dIn (eVar 4) (eVar 3))) (sRet [] (eC (.bl false))) (sNil)) (sAsg [] (eC (.bl true)) (gSb 3 (eVar 4)))
def b_is_names : Sx := sSeq (sIf (tNot (tTru (eCall [] 3 m_is_tuple_of (aCons (eVar 0) (aCons (eVar 1) (aCons (eVar 2) (aNil))))))) (sRet [] (eC (.bl false))) (sNil)) (sSeq (sSet [] 3 (eDNew false)) (sSeq (sFor (iVal [] (eVar 0)) (gNm [] 4) b_is_names_f1) (sRet [] (eC (.bl true)))))
def m_is_names : Fn := runF 2 b_is_names
def b_is_task : Sx := sSeq (sIf (tNot (tTru (eCall [] 3 m_is_tuple_of (aCons (eVar 0) (aCons (eC (.int 3)) (aCons (eC (.int 3)) (aNil))))))) (sRet [] (eC (.bl false))) (sNil)) (sSeq (sAsg [] (eVar 0) (gTp 3 (gsCons (gNm [] 1) (gsCons (gNm [] 2) (gsCons (gNm [] 3) (gsNil)))))) (sRet [] (eAnd (eCall [] 1 m_is_name (aCons (eVar 1) (aNil))) (eAnd (eCall [] 3 m_is_whole_in (aCons (eVar 2) (aCons (eC (.int 1)) (aCons (eC c_MOST_DAYS) (aNil))))) (eCall [] 3 m_is_names (aCons (eVar 3) (aCons (eC (.int 0)) (aCons (eC c_MOST_TASKS) (aNil)))))))))
def m_is_task : Fn := runF 3 b_is_task
def b_check_tasks_f1 : Sx := sSeq (sIf (tNot (tTru (eCall [] 1 m_is_task (aCons (eVar 2) (aNil))))) (sRaise "BadTask") (sNil)) (sSeq (sIf (t2 dIn (e2 dIx (eVar 2) (eC (.int 0))) (eVar 1)) (sRaise "BadTask") (sNil)) (sAsg [] (eC (.bl true)) (gSb 1 (e2 dIx (eVar 2) (eC (.int 0))))))
def b_check_tasks_f2 : Sx := sIf (t2 dNotIn (eVar 8) (eVar 1)) (sRaise "BadTask") (sNil)
def b_check_tasks_f3 : Sx := sFor (iVal [] (eVar 7)) (gNm [] 8) b_check_tasks_f2
def b_check_tasks : Sx := sSeq (sIf (tNot (tTru (eCall [] 3 m_is_tuple_of (aCons (eVar 0) (aCons (eC (.int 2)) (aCons (eC (.int 2)) (aNil))))))) (sRaise "BadTask") (sNil)) (sSeq (sAsg [] (eVar 0) (gTp 2 (gsCons (gNm [] 3) (gsCons (gNm [] 4) (gsNil))))) (sSeq (sIf (tNot (tTru (eCall [] 3 m_is_tuple_of (aCons (eVar 3) (aCons (eC (.int 0)) (aCons (eC c_MOST_TASKS) (aNil))))))) (sRaise "BadTask") (sNil)) (sSeq (sSet [] 1 (eDNew false)) (sSeq (sFor (iVal [] (eVar 3)) (gNm [] 2) b_check_tasks_f1) (sSeq (sFor (iVal [] (eVar 3)) (gTp 3 (gsCons (gNm [] 5) (gsCons (gNm [] 6) (gsCons (gNm [] 7) (gsNil))))) b_check_tasks_f3) (sIf (tNot (tTru (eCall [] 3 m_is_whole_in (aCons (eVar 4) (aCons (eC (.int 0)) (aCons (eC c_LAST_DUE) (aNil))))))) (sRaise "BadTask") (sNil)))))))
def m_check_tasks : Fn := runF 8 b_check_tasks
def b_same_single : Sx := sSeq (sIf (tOr (t2 dIs (eVar 0) (eC .non)) (t2 dIs (eVar 1) (eC .non))) (sRet [] (eAnd (bE (t2 dIs (eVar 0) (eC .non))) (bE (t2 dIs (eVar 1) (eC .non))))) (sNil)) (sSeq (sIf (tOr (tIsi (isT .bool) (eVar 0)) (tIsi (isT .bool) (eVar 1))) (sRet [] (eAnd (bE (tIsi (isT .bool) (eVar 0))) (eAnd (bE (tIsi (isT .bool) (eVar 1))) (bE (t2 dEq (eVar 0) (eVar 1)))))) (sNil)) (sSeq (sIf (tOr (tIsi (isT .int) (eVar 0)) (tIsi (isT .int) (eVar 1))) (sRet [] (eAnd (bE (tIsi (isT .int) (eVar 0))) (eAnd (bE (tIsi (isT .int) (eVar 1))) (bE (t2 dEq (eVar 0) (eVar 1)))))) (sNil)) (sRet [] (eAnd (bE (tIsi (isT .str) (eVar 0))) (eAnd (bE (tIsi (isT .str) (eVar 1))) (bE (t2 dEq (eVar 0) (eVar 1))))))))
def m_same_single : Fn := runF 0 b_same_single
def b_same_f1 : Sx := sEx (eMl [] 2 mAppend (aCons (eTup [] (aCons (e2 dIx (eVar 3) (eVar 5)) (aCons (e2 dIx (eVar 4) (eVar 5)) (aNil)))) (aNil)))
def b_same_t2 : Tx := tTru (eVar 2)
def b_same_w2 : Sx := sSeq (sAsg [] (eMl [] 2 mPop aNil) (gTp 2 (gsCons (gNm [] 3) (gsCons (gNm [] 4) (gsNil))))) (sIf (tOr (tIsi (isT .tuple) (eVar 3)) (tIsi (isT .tuple) (eVar 4))) (sSeq (sIf (tOr (tNot (tIsi (isT .tuple) (eVar 3))) (tNot (tIsi (isT .tuple) (eVar 4)))) (sRet [] (eC (.bl false))) (sNil)) (sSeq (sIf (t2 dNe (eB dLen1 (aCons (eVar 3) (aNil))) (eB dLen1 (aCons (eVar 4) (aNil)))) (sRet [] (eC (.bl false))) (sNil)) (sFor (iRg1 (aCons (eB dLen1 (aCons (eVar 3) (aNil))) (aNil))) (gNm [] 5) b_same_f1))) (sIf (tNot (tTru (eCall [] 2 m_same_single (aCons (eVar 3) (aCons (eVar 4) (aNil)))))) (sRet [] (eC (.bl false))) (sNil)))
def b_same : Sx := sSeq (sSet [] 2 (eLst [] (aCons (eTup [] (aCons (eVar 0) (aCons (eVar 1) (aNil)))) (aNil)))) (sSeq (sWh b_same_t2 b_same_w2 1000000000) (sRet [] (eC (.bl true))))
def m_same : Fn := runF 4 b_same
def b_is_hindrance_k1 : Ex := e2 dIx (eVar 9) (eC (.int 0))
def b_is_hindrance_c1 : Ex := eVar 9
def b_is_hindrance_f2 : Sx := sIf (t2 dNotIn (eVar 3) (eVar 2)) (sRet [] (eC (.bl false))) (sNil)
def b_is_hindrance_f3 : Sx := sIf (t2 dNotIn (e2 dIx (eVar 8) (e2 dSub (eVar 4) (eC (.int 1)))) (e2 dIx (e2 dIx (eVar 2) (e2 dIx (eVar 8) (eVar 4))) (eC (.int 2)))) (sRet [] (eC (.bl false))) (sNil)
def b_is_hindrance_c4 : Ex := e2 dIx (e2 dIx (eVar 2) (eVar 3)) (eC (.int 1))
def b_is_hindrance : Sx := sSeq (sAsg [] (eVar 0) (gTp 2 (gsCons (gNm [] 5) (gsCons (gNm [] 6) (gsNil))))) (sSeq (sIf (tNot (tTru (eCall [] 3 m_is_tuple_of (aCons (eVar 1) (aCons (eC (.int 2)) (aCons (eC (.int 2)) (aNil))))))) (sRet [] (eC (.bl false))) (sNil)) (sSeq (sAsg [] (eVar 1) (gTp 2 (gsCons (gNm [] 7) (gsCons (gNm [] 8) (gsNil))))) (sSeq (sIf (tOr (tNot (tOr (tTru (eCall [] 2 m_same (aCons (eVar 7) (aCons (eC (.str "ring")) (aNil))))) (tTru (eCall [] 2 m_same (aCons (eVar 7) (aCons (eC (.str "late")) (aNil))))))) (tNot (tTru (eCall [] 3 m_is_names (aCons (eVar 8) (aCons (eC (.int 1)) (aCons (eC c_MOST_TASKS) (aNil)))))))) (sRet [] (eC (.bl false))) (sNil)) (sSeq (sSet [] 2 (eDc [] [9] (iVal [] (eVar 5)) (gNm [] 9) (tsNo) b_is_hindrance_k1 b_is_hindrance_c1)) (sSeq (sFor (iVal [] (eVar 8)) (gNm [] 3) b_is_hindrance_f2) (sSeq (sFor (iRg2 (aCons (eC (.int 1)) (aCons (eB dLen1 (aCons (eVar 8) (aNil))) (aNil)))) (gNm [] 4) b_is_hindrance_f3) (sSeq (sIf (t2 dEq (eVar 7) (eC (.str "ring"))) (sRet [] (bE (t2 dIn (e2 dIx (eVar 8) (e1 dNeg (eC (.int 1)))) (e2 dIx (e2 dIx (eVar 2) (e2 dIx (eVar 8) (eC (.int 0)))) (eC (.int 2)))))) (sNil)) (sRet [] (bE (t2 dGt (eB dSum (aCons (eLc [] [3] (iVal [] (eVar 8)) (gNm [] 3) (tsNo) b_is_hindrance_c4) (aNil))) (eVar 6)))))))))))
def m_is_hindrance : Fn := runF 8 b_is_hindrance
def b_is_answer : Sx := sSeq (sIf (tOr (tNot (tTru (eCall [] 3 m_is_tuple_of (aCons (eVar 0) (aCons (eC (.int 2)) (aCons (eC (.int 2)) (aNil))))))) (tNot (tIsi (isT .str) (e2 dIx (eVar 0) (eC (.int 0)))))) (sRet [] (eC (.bl false))) (sNil)) (sRet [] (eOr (bE (t2 dEq (e2 dIx (eVar 0) (eC (.int 0))) (eC (.str "yes")))) (bE (t2 dEq (e2 dIx (eVar 0) (eC (.int 0))) (eC (.str "no"))))))
def m_is_answer : Fn := runF 0 b_is_answer
def b_is_timely_f1 : Sx := sSeq (sIf (tOr (tNot (tTru (eCall [] 1 m_is_whole (aCons (eVar 6) (aNil))))) (tOr (t2 dLt (eVar 6) (eC (.int 0))) (t2 dGt (e2 dAdd (eVar 6) (e2 dIx (eVar 5) (eC (.int 1)))) (eVar 4)))) (sRet [] (eC (.bl false))) (sNil)) (sAsg [] (e2 dAdd (eVar 6) (e2 dIx (eVar 5) (eC (.int 1)))) (gSb 2 (e2 dIx (eVar 5) (eC (.int 0)))))
def b_is_timely_f2 : Sx := sIf (t2 dLt (eVar 6) (e2 dIx (eVar 2) (eVar 7))) (sRet [] (eC (.bl false))) (sNil)
def b_is_timely_f3 : Sx := sFor (iVal [] (e2 dIx (eVar 5) (eC (.int 2)))) (gNm [] 7) b_is_timely_f2
def b_is_timely : Sx := sSeq (sAsg [] (eVar 0) (gTp 2 (gsCons (gNm [] 3) (gsCons (gNm [] 4) (gsNil))))) (sSeq (sIf (tNot (tTru (eCall [] 3 m_is_tuple_of (aCons (eVar 1) (aCons (eB dLen1 (aCons (eVar 3) (aNil))) (aCons (eB dLen1 (aCons (eVar 3) (aNil))) (aNil))))))) (sRet [] (eC (.bl false))) (sNil)) (sSeq (sSet [] 2 (eDNew false)) (sSeq (sFor (iZp [] (aCons (eVar 3) (aCons (eVar 1) (aNil)))) (gTp 2 (gsCons (gNm [] 5) (gsCons (gNm [] 6) (gsNil)))) b_is_timely_f1) (sSeq (sFor (iZp [] (aCons (eVar 3) (aCons (eVar 1) (aNil)))) (gTp 2 (gsCons (gNm [] 5) (gsCons (gNm [] 6) (gsNil)))) b_is_timely_f3) (sRet [] (eC (.bl true)))))))
def m_is_timely : Fn := runF 6 b_is_timely
def b_upholds_tasks : Sx := sSeq (sEx (eCall [] 1 m_check_tasks (aCons (eVar 0) (aNil)))) (sSeq (sIf (tNot (tTru (eCall [] 1 m_is_answer (aCons (eVar 1) (aNil))))) (sRet [] (eC (.bl false))) (sNil)) (sSeq (sAsg [] (eVar 1) (gTp 2 (gsCons (gNm [] 2) (gsCons (gNm [] 3) (gsNil))))) (sSeq (sIf (t2 dEq (eVar 2) (eC (.str "yes"))) (sRet [] (eCall [] 2 m_is_timely (aCons (eVar 0) (aCons (eVar 3) (aNil))))) (sNil)) (sRet [] (eCall [] 2 m_is_hindrance (aCons (eVar 0) (aCons (eVar 3) (aNil))))))))
def m_upholds_tasks : Fn := runF 2 b_upholds_tasks
def b__law_other_kinds_f1 : Sx := sEx (eMl [] 3 mAppend (aCons (eTup [] (aCons (eC (.str "no")) (aCons (eVar 7) (aNil)))) (aNil)))
def b__law_other_kinds_f2 : Sx := sSeq (sEx (eMl [] 3 mAppend (aCons (eTup [] (aCons (eC (.str "no")) (aCons (eTup [] (aCons (eVar 4) (aCons (e2 dAdd (eVar 2) (eTup [] (aCons (eVar 8) (aNil)))) (aNil)))) (aNil)))) (aNil)))) (sEx (eMl [] 3 mAppend (aCons (eTup [] (aCons (eC (.str "no")) (aCons (eTup [] (aCons (eVar 4) (aCons (e2 dAdd (eTup [] (aCons (eVar 8) (aNil))) (eVar 2)) (aNil)))) (aNil)))) (aNil))))
def b__law_other_kinds_f3 : Sx := sSeq (sFor (iVal [] (eLst [] (aCons (eTup [] (aCons (eVar 4) (aNil))) (aCons (eTup [] (aCons (eVar 4) (aCons (eVar 2) (aCons (eVar 2) (aNil))))) (aCons (eTup [] (aCons (eVar 2) (aCons (eVar 4) (aNil)))) (aCons (eTup [] (aCons (eVar 4) (aCons (eC .non) (aNil)))) (aCons (eTup [] (aCons (eVar 4) (aCons (eVar 4) (aNil)))) (aCons (eTup [] (aCons (eC .non) (aCons (eVar 2) (aNil)))) (aCons (eTup [] (aCons (eC (.bl true)) (aCons (eVar 2) (aNil)))) (aNil)))))))))) (gNm [] 7) b__law_other_kinds_f1) (sSeq (sEx (eMl [] 3 mAppend (aCons (eTup [] (aCons (eC (.str "yes")) (aCons (eTup [] (aCons (eVar 4) (aCons (eVar 2) (aNil)))) (aNil)))) (aNil)))) (sFor (iVal [] (eLst [] (aCons (eC .non) (aCons (eC (.int 1)) (aCons (eC (.bl true)) (aCons (eC (.str "")) (aCons (eC (.str "A")) (aCons (eTup [] (aCons (eC (.str "a")) (aNil))) (aNil))))))))) (gNm [] 8) b__law_other_kinds_f2))
def b__law_other_kinds_f4 : Sx := sEx (eMl [] 3 mAppend (aCons (eTup [] (aCons (eC (.str "yes")) (aCons (e2 dAdd (e2 dAdd (eSl (eVar 1) (pNo) (pSo (eVar 5))) (eTup [] (aCons (eVar 8) (aNil)))) (eSl (eVar 1) (pSo (e2 dAdd (eVar 5) (eC (.int 1)))) (pNo))) (aNil)))) (aNil)))
def b__law_other_kinds_f5 : Sx := sSeq (sFor (iVal [] (eLst [] (aCons (eC .non) (aCons (eB dStr1 (aCons (e2 dIx (eVar 1) (eVar 5)) (aNil))) (aCons (eTup [] (aCons (e2 dIx (eVar 1) (eVar 5)) (aNil))) (aNil)))))) (gNm [] 8) b__law_other_kinds_f4) (sIf (t2 dIn (e2 dIx (eVar 1) (eVar 5)) (eTup [] (aCons (eC (.int 0)) (aCons (eC (.int 1)) (aNil))))) (sEx (eMl [] 3 mAppend (aCons (eTup [] (aCons (eC (.str "yes")) (aCons (e2 dAdd (e2 dAdd (eSl (eVar 1) (pNo) (pSo (eVar 5))) (eTup [] (aCons (bE (t2 dEq (e2 dIx (eVar 1) (eVar 5)) (eC (.int 1)))) (aNil)))) (eSl (eVar 1) (pSo (e2 dAdd (eVar 5) (eC (.int 1)))) (pNo))) (aNil)))) (aNil)))) (sNil))
def b__law_other_kinds_f6 : Sx := sIf (t2 dIsNot (eCall [] 2 m_upholds_tasks (aCons (eVar 0) (aCons (eVar 6) (aNil)))) (eC (.bl false))) (sRet [] (eC (.bl false))) (sNil)
def b__law_other_kinds : Sx := sSeq (sSet [] 3 (eLst [] (aCons (eTup [] (aCons (eC (.str "yes")) (aCons (eB dLst1 (aCons (eVar 1) (aNil))) (aNil)))) (aCons (eTup [] (aCons (eC (.str "no")) (aCons (eTup [] (aCons (eC (.str "late")) (aCons (eB dLst1 (aCons (eVar 2) (aNil))) (aNil)))) (aNil)))) (aCons (eTup [] (aCons (eC (.str "no")) (aCons (eLst [] (aCons (eC (.str "late")) (aCons (eVar 2) (aNil)))) (aNil)))) (aCons (eTup [] (aCons (eC (.str "no")) (aCons (eTup [] (aCons (eC (.str "Late")) (aCons (eVar 2) (aNil)))) (aNil)))) (aNil))))))) (sSeq (sFor (iVal [] (eLst [] (aCons (eC (.str "ring")) (aCons (eC (.str "late")) (aNil))))) (gNm [] 4) b__law_other_kinds_f3) (sSeq (sFor (iRg1 (aCons (eB dLen1 (aCons (eVar 1) (aNil))) (aNil))) (gNm [] 5) b__law_other_kinds_f5) (sSeq (sFor (iVal [] (e2 dAdd (e2 dAdd (eVar 3) (eCall [] 2 m__law_wrong_shapes (aCons (eC (.str "yes")) (aCons (eVar 1) (aNil))))) (eCall [] 2 m__law_wrong_shapes (aCons (eC (.str "no")) (aCons (eTup [] (aCons (eC (.str "late")) (aCons (eVar 2) (aNil)))) (aNil)))))) (gNm [] 6) b__law_other_kinds_f6) (sRet [] (eC (.bl true))))))
def m__law_other_kinds : Fn := runF 6 b__law_other_kinds
def b__law_same_c1 (S : Fn) : Ex := eCall [] 2 S (aCons (eVar 2) (aCons (eVar 3) (aNil)))
def b__law_same (S : Fn) : Sx := sSeq (sIf (tIsi (isT .tuple) (eVar 1)) (sSeq (sIf (tOr (tNot (tIsi (isT .tuple) (eVar 0))) (t2 dNe (eB dLen1 (aCons (eVar 0) (aNil))) (eB dLen1 (aCons (eVar 1) (aNil))))) (sRet [] (eC (.bl false))) (sNil)) (sRet [] (eB dAll (aCons (eLc [] [2, 3] (iZp [] (aCons (eVar 0) (aCons (eVar 1) (aNil)))) (gTp 2 (gsCons (gNm [] 2) (gsCons (gNm [] 3) (gsNil)))) (tsNo) (b__law_same_c1 S)) (aNil))))) (sNil)) (sSeq (sIf (t2 dIs (eVar 1) (eC .non)) (sRet [] (bE (t2 dIs (eVar 0) (eC .non)))) (sNil)) (sSeq (sIf (tIsi (isT .bool) (eVar 1)) (sRet [] (eAnd (bE (tIsi (isT .bool) (eVar 0))) (bE (t2 dEq (eVar 0) (eVar 1))))) (sNil)) (sSeq (sIf (tIsi (isT .int) (eVar 1)) (sRet [] (eAnd (bE (tIsi (isT .int) (eVar 0))) (eAnd (eNot (bE (tIsi (isT .bool) (eVar 0)))) (bE (t2 dEq (eVar 0) (eVar 1)))))) (sNil)) (sRet [] (eAnd (bE (tIsi (isT .str) (eVar 0))) (bE (t2 dEq (eVar 0) (eVar 1))))))))
def r__law_same : Nat → Fn
  | 0 => fun _ => .stuck
  | n + 1 => runF 2 (b__law_same (r__law_same n))
def m__law_same : Fn := r__law_same 40
def b__law_is_schedule_f1 : Sx := sSeq (sAsg [] (e2 dAdd (e2 dIx (eVar 2) (eVar 4)) (e2 dIx (e2 dIx (eVar 0) (eVar 4)) (eC (.int 1)))) (gSb 3 (e2 dIx (e2 dIx (eVar 0) (eVar 4)) (eC (.int 0))))) (sIf (tOr (t2 dLt (e2 dIx (eVar 2) (eVar 4)) (eC (.int 0))) (t2 dGt (e2 dAdd (e2 dIx (eVar 2) (eVar 4)) (e2 dIx (e2 dIx (eVar 0) (eVar 4)) (eC (.int 1)))) (eVar 1))) (sRet [] (eC (.bl false))) (sNil))
def b__law_is_schedule_c2 : Ex := eVar 5
def b__law_is_schedule_f3 : Sx := sIf (t2 dGt (eB dLen1 (aCons (eLc [] [5] (iVal [] (e2 dIx (e2 dIx (eVar 0) (eVar 4)) (eC (.int 2)))) (gNm [] 5) (t2 dGt (e2 dIx (eVar 3) (eVar 5)) (e2 dIx (eVar 2) (eVar 4))) b__law_is_schedule_c2) (aNil))) (eC (.int 0))) (sRet [] (eC (.bl false))) (sNil)
def b__law_is_schedule : Sx := sSeq (sIf (t2 dNe (eB dLen1 (aCons (eVar 2) (aNil))) (eB dLen1 (aCons (eVar 0) (aNil)))) (sRet [] (eC (.bl false))) (sNil)) (sSeq (sSet [] 3 (eDNew false)) (sSeq (sFor (iRg1 (aCons (eB dLen1 (aCons (eVar 0) (aNil))) (aNil))) (gNm [] 4) b__law_is_schedule_f1) (sSeq (sFor (iRg1 (aCons (eB dLen1 (aCons (eVar 0) (aNil))) (aNil))) (gNm [] 4) b__law_is_schedule_f3) (sRet [] (eC (.bl true))))))
def m__law_is_schedule : Fn := runF 3 b__law_is_schedule
def b__law_is_hindrance_f1 : Sx := sAsg [] (eVar 5) (gSb 4 (e2 dIx (eVar 5) (eC (.int 0))))
def b__law_is_hindrance_f2 : Sx := sSeq (sIf (tOr (t2 dNotIn (e2 dIx (eVar 3) (eVar 6)) (eVar 4)) (t2 dIn (e2 dIx (eVar 3) (eVar 6)) (eSl (eVar 3) (pNo) (pSo (eVar 6))))) (sRet [] (eC (.bl false))) (sNil)) (sIf (tAnd (t2 dGt (eVar 6) (eC (.int 0))) (t2 dNotIn (e2 dIx (eVar 3) (e2 dSub (eVar 6) (eC (.int 1)))) (e2 dIx (e2 dIx (eVar 4) (e2 dIx (eVar 3) (eVar 6))) (eC (.int 2))))) (sRet [] (eC (.bl false))) (sNil))
def b__law_is_hindrance_c3 : Ex := e2 dIx (e2 dIx (eVar 4) (eVar 7)) (eC (.int 1))
def b__law_is_hindrance : Sx := sSeq (sSet [] 4 (eDNew false)) (sSeq (sFor (iVal [] (eVar 0)) (gNm [] 5) b__law_is_hindrance_f1) (sSeq (sIf (t2 dEq (eB dLen1 (aCons (eVar 3) (aNil))) (eC (.int 0))) (sRet [] (eC (.bl false))) (sNil)) (sSeq (sFor (iRg1 (aCons (eB dLen1 (aCons (eVar 3) (aNil))) (aNil))) (gNm [] 6) b__law_is_hindrance_f2) (sSeq (sIf (t2 dEq (eVar 2) (eC (.str "ring"))) (sRet [] (bE (t2 dIn (e2 dIx (eVar 3) (e1 dNeg (eC (.int 1)))) (e2 dIx (e2 dIx (eVar 4) (e2 dIx (eVar 3) (eC (.int 0)))) (eC (.int 2)))))) (sNil)) (sRet [] (bE (t2 dGt (eB dSum (aCons (eLc [] [7] (iVal [] (eVar 3)) (gNm [] 7) (tsNo) b__law_is_hindrance_c3) (aNil))) (eVar 1))))))))
def m__law_is_hindrance : Fn := runF 4 b__law_is_hindrance
def b_law_f1 : Sx := sIf (tNot (tTru (eCall [] 2 m__law_same (aCons (eCall [] 2 m_upholds_tasks (aCons (eVar 2) (aCons (eTup [] (aCons (eC (.str "yes")) (aCons (eVar 3) (aNil)))) (aNil)))) (aCons (eCall [] 3 m__law_is_schedule (aCons (eVar 8) (aCons (eVar 9) (aCons (eVar 3) (aNil))))) (aNil)))))) (sRet [] (eC (.bl false))) (sNil)
def b_law_f2 : Sx := sIf (tNot (tTru (eCall [] 2 m__law_same (aCons (eCall [] 2 m_upholds_tasks (aCons (eVar 2) (aCons (eTup [] (aCons (eC (.str "no")) (aCons (eTup [] (aCons (eVar 10) (aCons (eVar 5) (aNil)))) (aNil)))) (aNil)))) (aCons (eCall [] 4 m__law_is_hindrance (aCons (eVar 8) (aCons (eVar 9) (aCons (eVar 10) (aCons (eVar 5) (aNil)))))) (aNil)))))) (sRet [] (eC (.bl false))) (sNil)
def b_law_f3 : Sx := sFor (iVal [] (eLst [] (aCons (eC (.str "ring")) (aCons (eC (.str "late")) (aNil))))) (gNm [] 10) b_law_f2
def b_law_c4 : Ex := eC (.int 0)
def b_law_c5 : Ex := e2 dIx (eVar 6) (e2 dIx (eVar 11) (eC (.int 0)))
def b_law : Sx := sSeq (sSet [] 1 (eCall [] 2 m__law_numbers (aCons (eVar 0) (aCons (eC (.int 110)) (aNil))))) (sSeq (sSet [] 2 (eCall [] 1 m__law_subject (aCons (eVar 1) (aNil)))) (sSeq (sAsg [] (eVar 2) (gTp 2 (gsCons (gNm [] 8) (gsCons (gNm [] 9) (gsNil))))) (sSeq (sFor (iVal [] (eCall [] 3 m__law_starts_to_try (aCons (eVar 8) (aCons (eVar 9) (aCons (e2 dIx (eVar 1) (eC (.int 81))) (aNil)))))) (gNm [] 3) b_law_f1) (sSeq (sSet [] 4 (eCall [] 2 m__law_names_to_try (aCons (eVar 8) (aCons (eSl (eVar 1) (pSo (eC (.int 83))) (pSo (eC (.int 100)))) (aNil))))) (sSeq (sFor (iVal [] (eVar 4)) (gNm [] 5) b_law_f3) (sSeq (sSet [] 6 (eCall [] 1 m__law_earliest (aCons (eVar 8) (aNil)))) (sSeq (sSet [] 7 (eB dTup1 (aCons (eLc [] [11] (iVal [] (eVar 8)) (gNm [] 11) (tsNo) b_law_c4) (aNil)))) (sSeq (sIf (t2 dIsNot (eVar 6) (eC .non)) (sSet [] 7 (eB dTup1 (aCons (eLc [] [11] (iVal [] (eVar 8)) (gNm [] 11) (tsNo) b_law_c5) (aNil)))) (sNil)) (sRet [] (eCall [] 3 m__law_other_kinds (aCons (eVar 2) (aCons (eVar 7) (aCons (e2 dIx (eVar 4) (e2 dMod (eB dInt1 (aCons (e2 dIx (eVar 1) (eC (.int 82))) (aNil))) (eB dLen1 (aCons (eVar 4) (aNil))))) (aNil))))))))))))))
def m_law : Fn := runF 11 b_law
end K68

namespace K68
open PL PySem PySem.Spec PyProof.Rows L2
def top (i : Nat) : Stmt := PySem.Challenge.pw_typefoundry_k68_task_judge.main.body.getD i (.Pass ⟨0, 0, 0, 0⟩)
abbrev st__law_numbers : Stmt := top 26
abbrev st__law_name : Stmt := top 27
abbrev st__law_pool : Stmt := top 28
abbrev st__law_earliest : Stmt := top 32
abbrev st__law_due : Stmt := top 31
abbrev st__law_subject : Stmt := top 30
abbrev st__law_latest : Stmt := top 33
abbrev st__law_starts_to_try : Stmt := top 37
abbrev st__law_stranger : Stmt := top 29
abbrev st__law_walk : Stmt := top 38
abbrev st__law_names_to_try : Stmt := top 39
abbrev st__law_wrong_shapes : Stmt := top 34
abbrev st_is_tuple_of : Stmt := top 6
abbrev st_is_whole : Stmt := top 3
abbrev st_is_whole_in : Stmt := top 4
abbrev st_is_name : Stmt := top 5
abbrev st_is_names : Stmt := top 7
abbrev st_is_task : Stmt := top 18
abbrev st_check_tasks : Stmt := top 19
abbrev st_same_single : Stmt := top 8
abbrev st_same : Stmt := top 9
abbrev st_is_hindrance : Stmt := top 22
abbrev st_is_answer : Stmt := top 10
abbrev st_is_timely : Stmt := top 21
abbrev st_upholds_tasks : Stmt := top 23
abbrev st__law_other_kinds : Stmt := top 40
abbrev st__law_same : Stmt := top 25
abbrev st__law_is_schedule : Stmt := top 35
abbrev st__law_is_hindrance : Stmt := top 36
abbrev st_law : Stmt := top 41
structure Txt (K : PySem.W.Frag) (mg : Str → Option Value) : Prop where
  con_DIGITS : Con0 K mg "DIGITS" c_DIGITS
  con_LAST_DUE : Con0 K mg "LAST_DUE" c_LAST_DUE
  con_LETTERS : Con0 K mg "LETTERS" c_LETTERS
  con_MOST_DAYS : Con0 K mg "MOST_DAYS" c_MOST_DAYS
  con_MOST_TASKS : Con0 K mg "MOST_TASKS" c_MOST_TASKS
  no_abs : mg "abs" = none
  no_all : mg "all" = none
  no_bool : mg "bool" = none
  no_int : mg "int" = none
  no_isinstance : mg "isinstance" = none
  no_len : mg "len" = none
  no_list : mg "list" = none
  no_max : mg "max" = none
  no_min : mg "min" = none
  no_range : mg "range" = none
  no_str : mg "str" = none
  no_sum : mg "sum" = none
  no_tuple : mg "tuple" = none
  no_zip : mg "zip" = none
  exc_BadTask : Exc0 K mg "BadTask"
  fn__law_numbers : FnT K mg "_law_numbers" st__law_numbers ["script", "count"]
  fn__law_name : FnT K mg "_law_name" st__law_name ["number"]
  fn__law_pool : FnT K mg "_law_pool" st__law_pool ["numbers"]
  fn__law_earliest : FnT K mg "_law_earliest" st__law_earliest ["tasks"]
  fn__law_due : FnT K mg "_law_due" st__law_due ["tasks", "number"]
  fn__law_subject : FnT K mg "_law_subject" st__law_subject ["numbers"]
  fn__law_latest : FnT K mg "_law_latest" st__law_latest ["tasks", "due"]
  fn__law_starts_to_try : FnT K mg "_law_starts_to_try" st__law_starts_to_try ["tasks", "due", "number"]
  fn__law_stranger : FnT K mg "_law_stranger" st__law_stranger ["pool"]
  fn__law_walk : FnT K mg "_law_walk" st__law_walk ["rows", "name", "number", "most"]
  fn__law_names_to_try : FnT K mg "_law_names_to_try" st__law_names_to_try ["tasks", "numbers"]
  fn__law_wrong_shapes : FnT K mg "_law_wrong_shapes" st__law_wrong_shapes ["word", "paper"]
  fn_is_tuple_of : FnT K mg "is_tuple_of" st_is_tuple_of ["value", "low", "high"]
  fn_is_whole : FnT K mg "is_whole" st_is_whole ["value"]
  fn_is_whole_in : FnT K mg "is_whole_in" st_is_whole_in ["value", "low", "high"]
  fn_is_name : FnT K mg "is_name" st_is_name ["value"]
  fn_is_names : FnT K mg "is_names" st_is_names ["value", "low", "high"]
  fn_is_task : FnT K mg "is_task" st_is_task ["value"]
  fn_check_tasks : FnT K mg "check_tasks" st_check_tasks ["subject"]
  fn_same_single : FnT K mg "same_single" st_same_single ["first", "second"]
  fn_same : FnT K mg "same" st_same ["first", "second"]
  fn_is_hindrance : FnT K mg "is_hindrance" st_is_hindrance ["subject", "paper"]
  fn_is_answer : FnT K mg "is_answer" st_is_answer ["value"]
  fn_is_timely : FnT K mg "is_timely" st_is_timely ["subject", "paper"]
  fn_upholds_tasks : FnT K mg "upholds_tasks" st_upholds_tasks ["subject", "answer"]
  fn__law_other_kinds : FnT K mg "_law_other_kinds" st__law_other_kinds ["subject", "starts", "names"]
  fn__law_same : FnT K mg "_law_same" st__law_same ["actual", "due"]
  fn__law_is_schedule : FnT K mg "_law_is_schedule" st__law_is_schedule ["tasks", "due", "paper"]
  fn__law_is_hindrance : FnT K mg "_law_is_hindrance" st__law_is_hindrance ["tasks", "due", "word", "names"]
  fn_law : FnT K mg "law" st_law ["script"]
section
variable {P : Program} {w : World} {K : PySem.W.Frag} {mg : Str → Option Value} {base : Heap}
theorem sc__law_numbers : FnScope ["script", "count", "rest", "numbers", "state", "k", "cell", "at"] ["script", "count"] (defScope st__law_numbers) := ⟨rfl, rfl, rfl, by decide +kernel, rfl, by decide +kernel, by decide +kernel⟩
theorem nd__law_numbers : (["script", "count", "rest", "numbers", "state", "k", "cell", "at"] : List Str).Nodup := sc__law_numbers.nd
theorem kd__law_numbers : (defScope st__law_numbers).kind = .function := rfl
theorem lk__law_numbers_at : (defScope st__law_numbers).names.lookup ("at" : Str) = some .local := by decide +kernel
theorem lk__law_numbers_cell : (defScope st__law_numbers).names.lookup ("cell" : Str) = some .local := by decide +kernel
theorem lk__law_numbers_count : (defScope st__law_numbers).names.lookup ("count" : Str) = some .local := by decide +kernel
theorem lk__law_numbers_int : (defScope st__law_numbers).names.lookup ("int" : Str) = some .globalImplicit := by decide +kernel
theorem lk__law_numbers_k : (defScope st__law_numbers).names.lookup ("k" : Str) = some .local := by decide +kernel
theorem lk__law_numbers_len : (defScope st__law_numbers).names.lookup ("len" : Str) = some .globalImplicit := by decide +kernel
theorem lk__law_numbers_numbers : (defScope st__law_numbers).names.lookup ("numbers" : Str) = some .local := by decide +kernel
theorem lk__law_numbers_range : (defScope st__law_numbers).names.lookup ("range" : Str) = some .globalImplicit := by decide +kernel
theorem lk__law_numbers_rest : (defScope st__law_numbers).names.lookup ("rest" : Str) = some .local := by decide +kernel
theorem lk__law_numbers_script : (defScope st__law_numbers).names.lookup ("script" : Str) = some .local := by decide +kernel
theorem lk__law_numbers_state : (defScope st__law_numbers).names.lookup ("state" : Str) = some .local := by decide +kernel
theorem cal__law_numbers (T : Txt K mg) : Cal0 P w K mg base 1 "_law_numbers" 2 m__law_numbers := by
  refine Cal0.of (k := 0) (m := 6) (f := b__law_numbers) T.fn__law_numbers sc__law_numbers rfl rfl fun H0 => ?_
  exact (ss_cons (s_lc (own := [("cell", 6)]) ⟨nd__law_numbers, rfl, Or.inl lk__law_numbers_rest, Or.inl rfl⟩ lk__law_numbers_rest rfl (by decide +kernel) kd__law_numbers (by dsimp only; decide +kernel) rfl rfl (i_val (e_sl (e_var (i := 0) rfl (Or.inl lk__law_numbers_script)) p_no (p_so e_int))) (fun _ => (g_nm ⟨nd__law_numbers, rfl, (by first | exact Or.inl rfl | exact Or.inr rfl), (by first | exact Or.inl rfl | exact Or.inr rfl)⟩)) (fun _ => ts_no) (fun _ => (e_cb (fun _ A => c_abs A) T.no_abs rfl (a_cons (e_var (i := 6) rfl ) a_nil) ))) (ss_cons (s_set ⟨nd__law_numbers, rfl, Or.inl lk__law_numbers_numbers, Or.inl rfl⟩ (e_lst a_nil)) (ss_cons (s_set ⟨nd__law_numbers, rfl, Or.inl lk__law_numbers_state, Or.inl rfl⟩ e_int) (ss_cons (s_for (i_rg1 T.no_range (a_cons (e_var (i := 1) rfl (Or.inl lk__law_numbers_count)) a_nil) lk__law_numbers_range) (g_nm ⟨nd__law_numbers, rfl, Or.inl lk__law_numbers_k, Or.inl rfl⟩) (ss_cons (s_set ⟨nd__law_numbers, rfl, Or.inl lk__law_numbers_cell, Or.inl rfl⟩ e_int) (ss_cons (s_set ⟨nd__law_numbers, rfl, Or.inl lk__law_numbers_at, Or.inl rfl⟩ e_int) (ss_cons (s_if (t_cmp (fun _ A => o_gt A) (e_cb (fun _ A => c_len1 A) T.no_len rfl (a_cons (e_var (i := 2) rfl (Or.inl lk__law_numbers_rest)) a_nil) lk__law_numbers_len) e_int) (ss_cons (s_set ⟨nd__law_numbers, rfl, Or.inl lk__law_numbers_at, Or.inl rfl⟩ (e_bin (fun _ A => o_mod A) (e_cty (fun _ A => c_int A) T.no_int rfl (a_cons (e_var (i := 5) rfl (Or.inl lk__law_numbers_k)) a_nil) lk__law_numbers_int) (e_cb (fun _ A => c_len1 A) T.no_len rfl (a_cons (e_var (i := 2) rfl (Or.inl lk__law_numbers_rest)) a_nil) lk__law_numbers_len))) (ss_one (s_set ⟨nd__law_numbers, rfl, Or.inl lk__law_numbers_cell, Or.inl rfl⟩ (e_ix (e_var (i := 2) rfl (Or.inl lk__law_numbers_rest)) (e_var (i := 7) rfl (Or.inl lk__law_numbers_at)))))) ss_nil) (ss_one (s_if (t_cmp (fun _ A => o_ge A) (e_var (i := 6) rfl (Or.inl lk__law_numbers_cell)) e_int) (ss_cons (s_ex (e_ml (i := 3) PySem.F.slot_list_append PySem.F.type_list_append (fun _ A => m_append A) (a_cons (e_bin (fun _ A => o_mod A) (e_cty (fun _ A => c_int A) T.no_int rfl (a_cons (e_var (i := 6) rfl (Or.inl lk__law_numbers_cell)) a_nil) lk__law_numbers_int) e_int) a_nil) rfl (Or.inl lk__law_numbers_numbers))) (ss_one (s_asg (e_bin (fun _ A => o_div A) (e_var (i := 6) rfl (Or.inl lk__law_numbers_cell)) e_int) (g_sub (i := 2) (e_var (i := 7) rfl (Or.inl lk__law_numbers_at)) rfl (Or.inl lk__law_numbers_rest))))) (ss_cons (s_set ⟨nd__law_numbers, rfl, Or.inl lk__law_numbers_state, Or.inl rfl⟩ (e_bin (fun _ A => o_mod A) (e_cty (fun _ A => c_int A) T.no_int rfl (a_cons (e_bin (fun _ A => o_add A) (e_bin (fun _ A => o_add A) (e_bin (fun _ A => o_add A) (e_bin (fun _ A => o_mul A) (e_var (i := 4) rfl (Or.inl lk__law_numbers_state)) (e_var (i := 4) rfl (Or.inl lk__law_numbers_state))) (e_bin (fun _ A => o_mul A) (e_var (i := 6) rfl (Or.inl lk__law_numbers_cell)) e_int)) (e_bin (fun _ A => o_mul A) (e_var (i := 5) rfl (Or.inl lk__law_numbers_k)) e_int)) e_int) a_nil) lk__law_numbers_int) e_int)) (ss_one (s_ex (e_ml (i := 3) PySem.F.slot_list_append PySem.F.type_list_append (fun _ A => m_append A) (a_cons (e_bin (fun _ A => o_mod A) (e_cty (fun _ A => c_int A) T.no_int rfl (a_cons (e_bin (fun _ A => o_div A) (e_var (i := 4) rfl (Or.inl lk__law_numbers_state)) e_int) a_nil) lk__law_numbers_int) e_int) a_nil) rfl (Or.inl lk__law_numbers_numbers))))))))))) (ss_one (s_ret (e_var (i := 3) rfl (Or.inl lk__law_numbers_numbers))))))))
theorem sc__law_name : FnScope ["number", "signs", "name", "rest", "more", "k"] ["number"] (defScope st__law_name) := ⟨rfl, rfl, rfl, by decide +kernel, rfl, by decide +kernel, by decide +kernel⟩
theorem nd__law_name : (["number", "signs", "name", "rest", "more", "k"] : List Str).Nodup := sc__law_name.nd
theorem kd__law_name : (defScope st__law_name).kind = .function := rfl
theorem lk__law_name_int : (defScope st__law_name).names.lookup ("int" : Str) = some .globalImplicit := by decide +kernel
theorem lk__law_name_k : (defScope st__law_name).names.lookup ("k" : Str) = some .local := by decide +kernel
theorem lk__law_name_more : (defScope st__law_name).names.lookup ("more" : Str) = some .local := by decide +kernel
theorem lk__law_name_name : (defScope st__law_name).names.lookup ("name" : Str) = some .local := by decide +kernel
theorem lk__law_name_number : (defScope st__law_name).names.lookup ("number" : Str) = some .local := by decide +kernel
theorem lk__law_name_range : (defScope st__law_name).names.lookup ("range" : Str) = some .globalImplicit := by decide +kernel
theorem lk__law_name_rest : (defScope st__law_name).names.lookup ("rest" : Str) = some .local := by decide +kernel
theorem lk__law_name_signs : (defScope st__law_name).names.lookup ("signs" : Str) = some .local := by decide +kernel
theorem cal__law_name (T : Txt K mg) : Cal0 P w K mg base 1 "_law_name" 1 m__law_name := by
  refine Cal0.of (k := 0) (m := 5) (f := b__law_name) T.fn__law_name sc__law_name rfl rfl fun H0 => ?_
  exact (ss_cons (s_set ⟨nd__law_name, rfl, Or.inl lk__law_name_signs, Or.inl rfl⟩ e_str) (ss_cons (s_set ⟨nd__law_name, rfl, Or.inl lk__law_name_name, Or.inl rfl⟩ (e_ix (e_var (i := 1) rfl (Or.inl lk__law_name_signs)) (e_bin (fun _ A => o_mod A) (e_cty (fun _ A => c_int A) T.no_int rfl (a_cons (e_var (i := 0) rfl (Or.inl lk__law_name_number)) a_nil) lk__law_name_int) e_int))) (ss_cons (s_set ⟨nd__law_name, rfl, Or.inl lk__law_name_rest, Or.inl rfl⟩ (e_bin (fun _ A => o_div A) (e_var (i := 0) rfl (Or.inl lk__law_name_number)) e_int)) (ss_cons (s_set ⟨nd__law_name, rfl, Or.inl lk__law_name_more, Or.inl rfl⟩ (e_bin (fun _ A => o_mod A) (e_cty (fun _ A => c_int A) T.no_int rfl (a_cons (e_var (i := 3) rfl (Or.inl lk__law_name_rest)) a_nil) lk__law_name_int) e_int)) (ss_cons (s_set ⟨nd__law_name, rfl, Or.inl lk__law_name_rest, Or.inl rfl⟩ (e_bin (fun _ A => o_div A) (e_var (i := 3) rfl (Or.inl lk__law_name_rest)) e_int)) (ss_cons (s_for (i_rg1 T.no_range (a_cons (e_var (i := 4) rfl (Or.inl lk__law_name_more)) a_nil) lk__law_name_range) (g_nm ⟨nd__law_name, rfl, Or.inl lk__law_name_k, Or.inl rfl⟩) (ss_cons (s_set ⟨nd__law_name, rfl, Or.inl lk__law_name_name, Or.inl rfl⟩ (e_bin (fun _ A => o_add A) (e_var (i := 2) rfl (Or.inl lk__law_name_name)) (e_ix (e_var (i := 1) rfl (Or.inl lk__law_name_signs)) (e_bin (fun _ A => o_mod A) (e_cty (fun _ A => c_int A) T.no_int rfl (a_cons (e_var (i := 3) rfl (Or.inl lk__law_name_rest)) a_nil) lk__law_name_int) e_int)))) (ss_one (s_set ⟨nd__law_name, rfl, Or.inl lk__law_name_rest, Or.inl rfl⟩ (e_bin (fun _ A => o_add A) (e_bin (fun _ A => o_div A) (e_var (i := 3) rfl (Or.inl lk__law_name_rest)) e_int) (e_bin (fun _ A => o_mul A) e_int (e_var (i := 5) rfl (Or.inl lk__law_name_k)))))))) (ss_one (s_ret (e_var (i := 2) rfl (Or.inl lk__law_name_name))))))))))
theorem sc__law_pool : FnScope ["numbers", "pool", "number", "name"] ["numbers"] (defScope st__law_pool) := ⟨rfl, rfl, rfl, by decide +kernel, rfl, by decide +kernel, by decide +kernel⟩
theorem nd__law_pool : (["numbers", "pool", "number", "name"] : List Str).Nodup := sc__law_pool.nd
theorem kd__law_pool : (defScope st__law_pool).kind = .function := rfl
theorem lk__law_pool__law_name : (defScope st__law_pool).names.lookup ("_law_name" : Str) = some .globalImplicit := by decide +kernel
theorem lk__law_pool_name : (defScope st__law_pool).names.lookup ("name" : Str) = some .local := by decide +kernel
theorem lk__law_pool_number : (defScope st__law_pool).names.lookup ("number" : Str) = some .local := by decide +kernel
theorem lk__law_pool_numbers : (defScope st__law_pool).names.lookup ("numbers" : Str) = some .local := by decide +kernel
theorem lk__law_pool_pool : (defScope st__law_pool).names.lookup ("pool" : Str) = some .local := by decide +kernel
theorem cal__law_pool (T : Txt K mg) : Cal0 P w K mg base 2 "_law_pool" 1 m__law_pool := by
  refine Cal0.of (k := 1) (m := 3) (f := b__law_pool) T.fn__law_pool sc__law_pool rfl rfl fun H0 => ?_
  have h__law_name : Cal ⟨P, w, K, mg, base, ["numbers", "pool", "number", "name"], defScope st__law_pool, fun _ => true, 1, H0, []⟩ "_law_name" 1 m__law_name := (cal__law_name T).cal (by decide)
  exact (ss_cons (s_set ⟨nd__law_pool, rfl, Or.inl lk__law_pool_pool, Or.inl rfl⟩ (e_lst a_nil)) (ss_cons (s_for (i_val (e_var (i := 0) rfl (Or.inl lk__law_pool_numbers))) (g_nm ⟨nd__law_pool, rfl, Or.inl lk__law_pool_number, Or.inl rfl⟩) (ss_cons (s_set ⟨nd__law_pool, rfl, Or.inl lk__law_pool_name, Or.inl rfl⟩ (e_call h__law_name (a_cons (e_var (i := 2) rfl (Or.inl lk__law_pool_number)) a_nil) lk__law_pool__law_name)) (ss_one (s_if (t_cmp (fun _ A => o_notin A) (e_var (i := 3) rfl (Or.inl lk__law_pool_name)) (e_var (i := 1) rfl (Or.inl lk__law_pool_pool))) (ss_one (s_ex (e_ml (i := 1) PySem.F.slot_list_append PySem.F.type_list_append (fun _ A => m_append A) (a_cons (e_var (i := 3) rfl (Or.inl lk__law_pool_name)) a_nil) rfl (Or.inl lk__law_pool_pool)))) ss_nil)))) (ss_one (s_ret (e_var (i := 1) rfl (Or.inl lk__law_pool_pool))))))
theorem sc__law_earliest : FnScope ["tasks", "days", "starts", "turn", "name", "long", "after", "moved", "before"] ["tasks"] (defScope st__law_earliest) := ⟨rfl, rfl, rfl, by decide +kernel, rfl, by decide +kernel, by decide +kernel⟩
theorem nd__law_earliest : (["tasks", "days", "starts", "turn", "name", "long", "after", "moved", "before"] : List Str).Nodup := sc__law_earliest.nd
theorem kd__law_earliest : (defScope st__law_earliest).kind = .function := rfl
theorem lk__law_earliest_after : (defScope st__law_earliest).names.lookup ("after" : Str) = some .local := by decide +kernel
theorem lk__law_earliest_before : (defScope st__law_earliest).names.lookup ("before" : Str) = some .local := by decide +kernel
theorem lk__law_earliest_days : (defScope st__law_earliest).names.lookup ("days" : Str) = some .local := by decide +kernel
theorem lk__law_earliest_len : (defScope st__law_earliest).names.lookup ("len" : Str) = some .globalImplicit := by decide +kernel
theorem lk__law_earliest_long : (defScope st__law_earliest).names.lookup ("long" : Str) = some .local := by decide +kernel
theorem lk__law_earliest_moved : (defScope st__law_earliest).names.lookup ("moved" : Str) = some .local := by decide +kernel
theorem lk__law_earliest_name : (defScope st__law_earliest).names.lookup ("name" : Str) = some .local := by decide +kernel
theorem lk__law_earliest_range : (defScope st__law_earliest).names.lookup ("range" : Str) = some .globalImplicit := by decide +kernel
theorem lk__law_earliest_starts : (defScope st__law_earliest).names.lookup ("starts" : Str) = some .local := by decide +kernel
theorem lk__law_earliest_tasks : (defScope st__law_earliest).names.lookup ("tasks" : Str) = some .local := by decide +kernel
theorem lk__law_earliest_turn : (defScope st__law_earliest).names.lookup ("turn" : Str) = some .local := by decide +kernel
theorem cal__law_earliest (T : Txt K mg) : Cal0 P w K mg base 1 "_law_earliest" 1 m__law_earliest := by
  refine Cal0.of (k := 0) (m := 8) (f := b__law_earliest) T.fn__law_earliest sc__law_earliest rfl rfl fun H0 => ?_
  exact (ss_cons (s_set ⟨nd__law_earliest, rfl, Or.inl lk__law_earliest_days, Or.inl rfl⟩ e_dnewK) (ss_cons (s_set ⟨nd__law_earliest, rfl, Or.inl lk__law_earliest_starts, Or.inl rfl⟩ e_dnewK) (ss_cons (s_for (i_val (e_var (i := 0) rfl (Or.inl lk__law_earliest_tasks))) (g_tp (gs_cons (g_nm ⟨nd__law_earliest, rfl, Or.inl lk__law_earliest_name, Or.inl rfl⟩) (gs_cons (g_nm ⟨nd__law_earliest, rfl, Or.inl lk__law_earliest_long, Or.inl rfl⟩) (gs_cons (g_nm ⟨nd__law_earliest, rfl, Or.inl lk__law_earliest_after, Or.inl rfl⟩) gs_nil)))) (ss_cons (s_asg (e_var (i := 5) rfl (Or.inl lk__law_earliest_long)) (g_sub (i := 1) (e_var (i := 4) rfl (Or.inl lk__law_earliest_name)) rfl (Or.inl lk__law_earliest_days))) (ss_one (s_asg e_int (g_sub (i := 2) (e_var (i := 4) rfl (Or.inl lk__law_earliest_name)) rfl (Or.inl lk__law_earliest_starts)))))) (ss_cons (s_for (i_rg1 T.no_range (a_cons (e_bin (fun _ A => o_add A) (e_cb (fun _ A => c_len1 A) T.no_len rfl (a_cons (e_var (i := 0) rfl (Or.inl lk__law_earliest_tasks)) a_nil) lk__law_earliest_len) e_int) a_nil) lk__law_earliest_range) (g_nm ⟨nd__law_earliest, rfl, Or.inl lk__law_earliest_turn, Or.inl rfl⟩) (ss_cons (s_set ⟨nd__law_earliest, rfl, Or.inl lk__law_earliest_moved, Or.inl rfl⟩ e_bl) (ss_cons (s_for (i_val (e_var (i := 0) rfl (Or.inl lk__law_earliest_tasks))) (g_tp (gs_cons (g_nm ⟨nd__law_earliest, rfl, Or.inl lk__law_earliest_name, Or.inl rfl⟩) (gs_cons (g_nm ⟨nd__law_earliest, rfl, Or.inl lk__law_earliest_long, Or.inl rfl⟩) (gs_cons (g_nm ⟨nd__law_earliest, rfl, Or.inl lk__law_earliest_after, Or.inl rfl⟩) gs_nil)))) (ss_one (s_for (i_val (e_var (i := 6) rfl (Or.inl lk__law_earliest_after))) (g_nm ⟨nd__law_earliest, rfl, Or.inl lk__law_earliest_before, Or.inl rfl⟩) (ss_one (s_if (t_cmp (fun _ A => o_lt A) (e_ix (e_var (i := 2) rfl (Or.inl lk__law_earliest_starts)) (e_var (i := 4) rfl (Or.inl lk__law_earliest_name))) (e_bin (fun _ A => o_add A) (e_ix (e_var (i := 2) rfl (Or.inl lk__law_earliest_starts)) (e_var (i := 8) rfl (Or.inl lk__law_earliest_before))) (e_ix (e_var (i := 1) rfl (Or.inl lk__law_earliest_days)) (e_var (i := 8) rfl (Or.inl lk__law_earliest_before))))) (ss_cons (s_asg (e_bin (fun _ A => o_add A) (e_ix (e_var (i := 2) rfl (Or.inl lk__law_earliest_starts)) (e_var (i := 8) rfl (Or.inl lk__law_earliest_before))) (e_ix (e_var (i := 1) rfl (Or.inl lk__law_earliest_days)) (e_var (i := 8) rfl (Or.inl lk__law_earliest_before)))) (g_sub (i := 2) (e_var (i := 4) rfl (Or.inl lk__law_earliest_name)) rfl (Or.inl lk__law_earliest_starts))) (ss_one (s_set ⟨nd__law_earliest, rfl, Or.inl lk__law_earliest_moved, Or.inl rfl⟩ e_bl))) ss_nil))))) (ss_one (s_if (t_not (t_tru (e_var (i := 7) rfl (Or.inl lk__law_earliest_moved)))) (ss_one (s_ret (e_var (i := 2) rfl (Or.inl lk__law_earliest_starts)))) ss_nil))))) (ss_one (s_ret e_non))))))
theorem sc__law_due : FnScope ["tasks", "number", "starts", "kind", "end", "task"] ["tasks", "number"] (defScope st__law_due) := ⟨rfl, rfl, rfl, by decide +kernel, rfl, by decide +kernel, by decide +kernel⟩
theorem nd__law_due : (["tasks", "number", "starts", "kind", "end", "task"] : List Str).Nodup := sc__law_due.nd
theorem kd__law_due : (defScope st__law_due).kind = .function := rfl
theorem lk__law_due__law_earliest : (defScope st__law_due).names.lookup ("_law_earliest" : Str) = some .globalImplicit := by decide +kernel
theorem lk__law_due_end : (defScope st__law_due).names.lookup ("end" : Str) = some .local := by decide +kernel
theorem lk__law_due_int : (defScope st__law_due).names.lookup ("int" : Str) = some .globalImplicit := by decide +kernel
theorem lk__law_due_kind : (defScope st__law_due).names.lookup ("kind" : Str) = some .local := by decide +kernel
theorem lk__law_due_max : (defScope st__law_due).names.lookup ("max" : Str) = some .globalImplicit := by decide +kernel
theorem lk__law_due_min : (defScope st__law_due).names.lookup ("min" : Str) = some .globalImplicit := by decide +kernel
theorem lk__law_due_number : (defScope st__law_due).names.lookup ("number" : Str) = some .local := by decide +kernel
theorem lk__law_due_starts : (defScope st__law_due).names.lookup ("starts" : Str) = some .cell := by decide +kernel
theorem lk__law_due_tasks : (defScope st__law_due).names.lookup ("tasks" : Str) = some .local := by decide +kernel
theorem cal__law_due (T : Txt K mg) : Cal0 P w K mg base 2 "_law_due" 2 m__law_due := by
  refine Cal0.of (k := 1) (m := 4) (f := b__law_due) T.fn__law_due sc__law_due rfl rfl fun H0 => ?_
  have h__law_earliest : Cal ⟨P, w, K, mg, base, ["tasks", "number", "starts", "kind", "end", "task"], defScope st__law_due, fun _ => true, 1, H0, []⟩ "_law_earliest" 1 m__law_earliest := (cal__law_earliest T).cal (by decide)
  exact (ss_cons (s_set ⟨nd__law_due, rfl, Or.inr lk__law_due_starts, Or.inl rfl⟩ (e_call h__law_earliest (a_cons (e_var (i := 0) rfl (Or.inl lk__law_due_tasks)) a_nil) lk__law_due__law_earliest)) (ss_cons (s_set ⟨nd__law_due, rfl, Or.inl lk__law_due_kind, Or.inl rfl⟩ (e_bin (fun _ A => o_mod A) (e_cty (fun _ A => c_int A) T.no_int rfl (a_cons (e_var (i := 1) rfl (Or.inl lk__law_due_number)) a_nil) lk__law_due_int) e_int)) (ss_cons (s_set ⟨nd__law_due, rfl, Or.inl lk__law_due_end, Or.inl rfl⟩ (e_bin (fun _ A => o_mod A) (e_cty (fun _ A => c_int A) T.no_int rfl (a_cons (e_bin (fun _ A => o_div A) (e_var (i := 1) rfl (Or.inl lk__law_due_number)) e_int) a_nil) lk__law_due_int) e_int)) (ss_cons (s_if (t_w (w_and (t_cmp (fun _ A => o_isnot A) (e_var (i := 2) rfl (Or.inr (Or.inl lk__law_due_starts))) e_non) (w_and1 (t_cmp (fun _ A => o_lt A) (e_var (i := 3) rfl (Or.inl lk__law_due_kind)) e_int)))) (ss_cons (s_set ⟨nd__law_due, rfl, Or.inl lk__law_due_end, Or.inl rfl⟩ (e_cb (fun _ A => c_max A) T.no_max rfl (a_cons (e_bin (fun _ A => o_add A) (e_lc (own := [("task", 5)]) nd__law_due (by dsimp only; decide +kernel) rfl rfl (i_val (e_var (i := 0) rfl (Or.inl lk__law_due_tasks))) (fun _ => (g_nm ⟨nd__law_due, rfl, (by first | exact Or.inl rfl | exact Or.inr rfl), (by first | exact Or.inl rfl | exact Or.inr rfl)⟩)) (fun _ => ts_no) (fun _ => (e_bin (fun _ A => o_add A) (e_ix (e_var (i := 2) rfl ) (e_ix (e_var (i := 5) rfl ) e_int)) (e_ix (e_var (i := 5) rfl ) e_int)))) (e_lst (a_cons e_int a_nil))) a_nil) lk__law_due_max)) (ss_one (s_if (t_w (w_or (t_cmp (fun _ A => o_eq A) (e_var (i := 3) rfl (Or.inl lk__law_due_kind)) e_int) (w_or1 (t_w (w_and (t_cmp (fun _ A => o_eq A) (e_var (i := 3) rfl (Or.inl lk__law_due_kind)) e_int) (w_and1 (t_cmp (fun _ A => o_eq A) (e_var (i := 4) rfl (Or.inl lk__law_due_end)) e_int))))))) (ss_one (s_set ⟨nd__law_due, rfl, Or.inl lk__law_due_end, Or.inl rfl⟩ (e_bin (fun _ A => o_add A) (e_var (i := 4) rfl (Or.inl lk__law_due_end)) e_int))) (ss_one (s_if (t_cmp (fun _ A => o_eq A) (e_var (i := 3) rfl (Or.inl lk__law_due_kind)) e_int) (ss_one (s_set ⟨nd__law_due, rfl, Or.inl lk__law_due_end, Or.inl rfl⟩ (e_bin (fun _ A => o_sub A) (e_var (i := 4) rfl (Or.inl lk__law_due_end)) e_int))) (ss_one (s_if (t_cmp (fun _ A => o_eq A) (e_var (i := 3) rfl (Or.inl lk__law_due_kind)) e_int) (ss_one (s_set ⟨nd__law_due, rfl, Or.inl lk__law_due_end, Or.inl rfl⟩ (e_bin (fun _ A => o_add A) (e_var (i := 4) rfl (Or.inl lk__law_due_end)) (e_bin (fun _ A => o_mod A) (e_cty (fun _ A => c_int A) T.no_int rfl (a_cons (e_bin (fun _ A => o_div A) (e_var (i := 1) rfl (Or.inl lk__law_due_number)) e_int) a_nil) lk__law_due_int) e_int)))) ss_nil))))))) ss_nil) (ss_one (s_ret (e_cb (fun _ A => c_min A) T.no_min rfl (a_cons (e_var (i := 4) rfl (Or.inl lk__law_due_end)) (a_cons e_int a_nil)) lk__law_due_min)))))))
theorem sc__law_subject : FnScope ["numbers", "pool", "many", "ring", "short", "tasks", "k", "days", "after", "j", "at", "digit", "back"] ["numbers"] (defScope st__law_subject) := ⟨rfl, rfl, rfl, by decide +kernel, rfl, by decide +kernel, by decide +kernel⟩
theorem nd__law_subject : (["numbers", "pool", "many", "ring", "short", "tasks", "k", "days", "after", "j", "at", "digit", "back"] : List Str).Nodup := sc__law_subject.nd
theorem kd__law_subject : (defScope st__law_subject).kind = .function := rfl
theorem lk__law_subject__law_due : (defScope st__law_subject).names.lookup ("_law_due" : Str) = some .globalImplicit := by decide +kernel
theorem lk__law_subject__law_pool : (defScope st__law_subject).names.lookup ("_law_pool" : Str) = some .globalImplicit := by decide +kernel
theorem lk__law_subject_after : (defScope st__law_subject).names.lookup ("after" : Str) = some .local := by decide +kernel
theorem lk__law_subject_at : (defScope st__law_subject).names.lookup ("at" : Str) = some .local := by decide +kernel
theorem lk__law_subject_back : (defScope st__law_subject).names.lookup ("back" : Str) = some .local := by decide +kernel
theorem lk__law_subject_days : (defScope st__law_subject).names.lookup ("days" : Str) = some .local := by decide +kernel
theorem lk__law_subject_digit : (defScope st__law_subject).names.lookup ("digit" : Str) = some .local := by decide +kernel
theorem lk__law_subject_int : (defScope st__law_subject).names.lookup ("int" : Str) = some .globalImplicit := by decide +kernel
theorem lk__law_subject_j : (defScope st__law_subject).names.lookup ("j" : Str) = some .local := by decide +kernel
theorem lk__law_subject_k : (defScope st__law_subject).names.lookup ("k" : Str) = some .local := by decide +kernel
theorem lk__law_subject_len : (defScope st__law_subject).names.lookup ("len" : Str) = some .globalImplicit := by decide +kernel
theorem lk__law_subject_many : (defScope st__law_subject).names.lookup ("many" : Str) = some .cell := by decide +kernel
theorem lk__law_subject_numbers : (defScope st__law_subject).names.lookup ("numbers" : Str) = some .local := by decide +kernel
theorem lk__law_subject_pool : (defScope st__law_subject).names.lookup ("pool" : Str) = some .local := by decide +kernel
theorem lk__law_subject_range : (defScope st__law_subject).names.lookup ("range" : Str) = some .globalImplicit := by decide +kernel
theorem lk__law_subject_ring : (defScope st__law_subject).names.lookup ("ring" : Str) = some .local := by decide +kernel
theorem lk__law_subject_short : (defScope st__law_subject).names.lookup ("short" : Str) = some .local := by decide +kernel
theorem lk__law_subject_tasks : (defScope st__law_subject).names.lookup ("tasks" : Str) = some .cell := by decide +kernel
theorem lk__law_subject_tuple : (defScope st__law_subject).names.lookup ("tuple" : Str) = some .globalImplicit := by decide +kernel
theorem cal__law_subject (T : Txt K mg) : Cal0 P w K mg base 3 "_law_subject" 1 m__law_subject := by
  refine Cal0.of (k := 2) (m := 12) (f := b__law_subject) T.fn__law_subject sc__law_subject rfl rfl fun H0 => ?_
  have h__law_pool : Cal ⟨P, w, K, mg, base, ["numbers", "pool", "many", "ring", "short", "tasks", "k", "days", "after", "j", "at", "digit", "back"], defScope st__law_subject, fun _ => true, 2, H0, []⟩ "_law_pool" 1 m__law_pool := (cal__law_pool T).cal (by decide)
  have h__law_due : Cal ⟨P, w, K, mg, base, ["numbers", "pool", "many", "ring", "short", "tasks", "k", "days", "after", "j", "at", "digit", "back"], defScope st__law_subject, fun _ => true, 2, H0, []⟩ "_law_due" 2 m__law_due := (cal__law_due T).cal (by decide)
  exact (ss_cons (s_set ⟨nd__law_subject, rfl, Or.inl lk__law_subject_pool, Or.inl rfl⟩ (e_call h__law_pool (a_cons (e_sl (e_var (i := 0) rfl (Or.inl lk__law_subject_numbers)) (p_so e_int) (p_so (e_bin (fun _ A => o_mod A) (e_cty (fun _ A => c_int A) T.no_int rfl (a_cons (e_ix (e_var (i := 0) rfl (Or.inl lk__law_subject_numbers)) e_int) a_nil) lk__law_subject_int) e_int))) a_nil) lk__law_subject__law_pool)) (ss_cons (s_set ⟨nd__law_subject, rfl, Or.inr lk__law_subject_many, Or.inl rfl⟩ (e_cb (fun _ A => c_len1 A) T.no_len rfl (a_cons (e_var (i := 1) rfl (Or.inl lk__law_subject_pool)) a_nil) lk__law_subject_len)) (ss_cons (s_set ⟨nd__law_subject, rfl, Or.inl lk__law_subject_ring, Or.inl rfl⟩ (e_cmp (fun _ A => o_eq A) (e_bin (fun _ A => o_mod A) (e_cty (fun _ A => c_int A) T.no_int rfl (a_cons (e_ix (e_var (i := 0) rfl (Or.inl lk__law_subject_numbers)) e_int) a_nil) lk__law_subject_int) e_int) e_int)) (ss_cons (s_set ⟨nd__law_subject, rfl, Or.inl lk__law_subject_short, Or.inl rfl⟩ (e_bin (fun _ A => o_add A) e_int (e_bin (fun _ A => o_mod A) (e_cty (fun _ A => c_int A) T.no_int rfl (a_cons (e_ix (e_var (i := 0) rfl (Or.inl lk__law_subject_numbers)) e_int) a_nil) lk__law_subject_int) e_int))) (ss_cons (s_set ⟨nd__law_subject, rfl, Or.inr lk__law_subject_tasks, Or.inl rfl⟩ (e_lst a_nil)) (ss_cons (s_for (i_rg1 T.no_range (a_cons (e_var (i := 2) rfl (Or.inr (Or.inl lk__law_subject_many))) a_nil) lk__law_subject_range) (g_nm ⟨nd__law_subject, rfl, Or.inl lk__law_subject_k, Or.inl rfl⟩) (ss_cons (s_set ⟨nd__law_subject, rfl, Or.inl lk__law_subject_days, Or.inl rfl⟩ (e_bin (fun _ A => o_add A) e_int (e_bin (fun _ A => o_mod A) (e_cty (fun _ A => c_int A) T.no_int rfl (a_cons (e_ix (e_var (i := 0) rfl (Or.inl lk__law_subject_numbers)) (e_bin (fun _ A => o_add A) e_int (e_var (i := 6) rfl (Or.inl lk__law_subject_k)))) a_nil) lk__law_subject_int) e_int))) (ss_cons (s_if (t_cmp (fun _ A => o_eq A) (e_bin (fun _ A => o_mod A) (e_cty (fun _ A => c_int A) T.no_int rfl (a_cons (e_bin (fun _ A => o_div A) (e_ix (e_var (i := 0) rfl (Or.inl lk__law_subject_numbers)) (e_bin (fun _ A => o_add A) e_int (e_var (i := 6) rfl (Or.inl lk__law_subject_k)))) e_int) a_nil) lk__law_subject_int) e_int) e_int) (ss_one (s_set ⟨nd__law_subject, rfl, Or.inl lk__law_subject_days, Or.inl rfl⟩ (e_bin (fun _ A => o_sub A) e_int (e_bin (fun _ A => o_mod A) (e_cty (fun _ A => c_int A) T.no_int rfl (a_cons (e_bin (fun _ A => o_div A) (e_ix (e_var (i := 0) rfl (Or.inl lk__law_subject_numbers)) (e_bin (fun _ A => o_add A) e_int (e_var (i := 6) rfl (Or.inl lk__law_subject_k)))) e_int) a_nil) lk__law_subject_int) e_int)))) ss_nil) (ss_cons (s_set ⟨nd__law_subject, rfl, Or.inl lk__law_subject_after, Or.inl rfl⟩ (e_lst a_nil)) (ss_cons (s_for (i_rg1 T.no_range (a_cons (e_var (i := 2) rfl (Or.inr (Or.inl lk__law_subject_many))) a_nil) lk__law_subject_range) (g_nm ⟨nd__law_subject, rfl, Or.inl lk__law_subject_j, Or.inl rfl⟩) (ss_cons (s_set ⟨nd__law_subject, rfl, Or.inl lk__law_subject_digit, Or.inl rfl⟩ (e_bin (fun _ A => o_div A) (e_ix (e_var (i := 0) rfl (Or.inl lk__law_subject_numbers)) (e_bin (fun _ A => o_add A) e_int (e_bin (fun _ A => o_mod A) (e_cty (fun _ A => c_int A) T.no_int rfl (a_cons (e_bin (fun _ A => o_add A) (e_var (i := 6) rfl (Or.inl lk__law_subject_k)) (e_var (i := 9) rfl (Or.inl lk__law_subject_j))) a_nil) lk__law_subject_int) e_int))) (e_bin (fun _ A => o_add A) e_int (e_bin (fun _ A => o_mul A) e_int (e_var (i := 9) rfl (Or.inl lk__law_subject_j)))))) (ss_one (s_if (t_w (w_and (t_cmp (fun _ A => o_lt A) (e_var (i := 9) rfl (Or.inl lk__law_subject_j)) (e_var (i := 6) rfl (Or.inl lk__law_subject_k))) (w_and1 (t_w (w_or (t_cmp (fun _ A => o_lt A) (e_bin (fun _ A => o_mod A) (e_cty (fun _ A => c_int A) T.no_int rfl (a_cons (e_var (i := 11) rfl (Or.inl lk__law_subject_digit)) a_nil) lk__law_subject_int) e_int) (e_var (i := 4) rfl (Or.inl lk__law_subject_short))) (w_or1 (t_w (w_and (t_cmp (fun _ A => o_eq A) (e_var (i := 9) rfl (Or.inl lk__law_subject_j)) (e_bin (fun _ A => o_sub A) (e_var (i := 6) rfl (Or.inl lk__law_subject_k)) e_int)) (w_and1 (t_cmp (fun _ A => o_eq A) (e_bin (fun _ A => o_mod A) (e_cty (fun _ A => c_int A) T.no_int rfl (a_cons (e_bin (fun _ A => o_div A) (e_ix (e_var (i := 0) rfl (Or.inl lk__law_subject_numbers)) e_int) e_int) a_nil) lk__law_subject_int) e_int) e_int)))))))))) (ss_one (s_ex (e_ml (i := 8) PySem.F.slot_list_append PySem.F.type_list_append (fun _ A => m_append A) (a_cons (e_ix (e_var (i := 1) rfl (Or.inl lk__law_subject_pool)) (e_var (i := 9) rfl (Or.inl lk__law_subject_j))) a_nil) rfl (Or.inl lk__law_subject_after)))) ss_nil)))) (ss_cons (s_if (t_w (w_and (t_tru (e_var (i := 3) rfl (Or.inl lk__law_subject_ring))) (w_and1 (t_cmp (fun _ A => o_eq A) (e_bin (fun _ A => o_mod A) (e_cty (fun _ A => c_int A) T.no_int rfl (a_cons (e_ix (e_var (i := 0) rfl (Or.inl lk__law_subject_numbers)) (e_bin (fun _ A => o_add A) e_int (e_var (i := 6) rfl (Or.inl lk__law_subject_k)))) a_nil) lk__law_subject_int) e_int) e_int)))) (ss_cons (s_set ⟨nd__law_subject, rfl, Or.inl lk__law_subject_back, Or.inl rfl⟩ (e_ix (e_var (i := 1) rfl (Or.inl lk__law_subject_pool)) (e_bin (fun _ A => o_mod A) (e_cty (fun _ A => c_int A) T.no_int rfl (a_cons (e_bin (fun _ A => o_div A) (e_ix (e_var (i := 0) rfl (Or.inl lk__law_subject_numbers)) (e_bin (fun _ A => o_add A) e_int (e_var (i := 6) rfl (Or.inl lk__law_subject_k)))) e_int) a_nil) lk__law_subject_int) (e_var (i := 2) rfl (Or.inr (Or.inl lk__law_subject_many)))))) (ss_one (s_if (t_cmp (fun _ A => o_notin A) (e_var (i := 12) rfl (Or.inl lk__law_subject_back)) (e_var (i := 8) rfl (Or.inl lk__law_subject_after))) (ss_one (s_ex (e_ml (i := 8) PySem.F.slot_list_append PySem.F.type_list_append (fun _ A => m_append A) (a_cons (e_var (i := 12) rfl (Or.inl lk__law_subject_back)) a_nil) rfl (Or.inl lk__law_subject_after)))) ss_nil))) ss_nil) (ss_cons (s_if (t_cmp (fun _ A => o_gt A) (e_cb (fun _ A => c_len1 A) T.no_len rfl (a_cons (e_var (i := 8) rfl (Or.inl lk__law_subject_after)) a_nil) lk__law_subject_len) e_int) (ss_cons (s_set ⟨nd__law_subject, rfl, Or.inl lk__law_subject_at, Or.inl rfl⟩ (e_bin (fun _ A => o_mod A) (e_cty (fun _ A => c_int A) T.no_int rfl (a_cons (e_bin (fun _ A => o_div A) (e_ix (e_var (i := 0) rfl (Or.inl lk__law_subject_numbers)) (e_bin (fun _ A => o_add A) e_int (e_var (i := 6) rfl (Or.inl lk__law_subject_k)))) e_int) a_nil) lk__law_subject_int) (e_cb (fun _ A => c_len1 A) T.no_len rfl (a_cons (e_var (i := 8) rfl (Or.inl lk__law_subject_after)) a_nil) lk__law_subject_len))) (ss_one (s_set ⟨nd__law_subject, rfl, Or.inl lk__law_subject_after, Or.inl rfl⟩ (e_bin (fun _ A => o_add A) (e_sl (e_var (i := 8) rfl (Or.inl lk__law_subject_after)) (p_so (e_var (i := 10) rfl (Or.inl lk__law_subject_at))) p_no) (e_sl (e_var (i := 8) rfl (Or.inl lk__law_subject_after)) p_no (p_so (e_var (i := 10) rfl (Or.inl lk__law_subject_at)))))))) ss_nil) (ss_one (s_ex (e_ml (i := 5) PySem.F.slot_list_append PySem.F.type_list_append (fun _ A => m_append A) (a_cons (e_tup (a_cons (e_ix (e_var (i := 1) rfl (Or.inl lk__law_subject_pool)) (e_var (i := 6) rfl (Or.inl lk__law_subject_k))) (a_cons (e_var (i := 7) rfl (Or.inl lk__law_subject_days)) (a_cons (e_cty (fun _ A => c_tup A) T.no_tuple rfl (a_cons (e_var (i := 8) rfl (Or.inl lk__law_subject_after)) a_nil) lk__law_subject_tuple) a_nil)))) a_nil) rfl (Or.inr (Or.inl lk__law_subject_tasks)))))))))))) (ss_cons (s_if (t_cmp (fun _ A => o_gt A) (e_var (i := 2) rfl (Or.inr (Or.inl lk__law_subject_many))) e_int) (ss_cons (s_set ⟨nd__law_subject, rfl, Or.inl lk__law_subject_at, Or.inl rfl⟩ (e_bin (fun _ A => o_mod A) (e_cty (fun _ A => c_int A) T.no_int rfl (a_cons (e_ix (e_var (i := 0) rfl (Or.inl lk__law_subject_numbers)) e_int) a_nil) lk__law_subject_int) (e_var (i := 2) rfl (Or.inr (Or.inl lk__law_subject_many))))) (ss_one (s_set ⟨nd__law_subject, rfl, Or.inr lk__law_subject_tasks, Or.inl rfl⟩ (e_bin (fun _ A => o_add A) (e_sl (e_var (i := 5) rfl (Or.inr (Or.inl lk__law_subject_tasks))) (p_so (e_var (i := 10) rfl (Or.inl lk__law_subject_at))) p_no) (e_sl (e_var (i := 5) rfl (Or.inr (Or.inl lk__law_subject_tasks))) p_no (p_so (e_var (i := 10) rfl (Or.inl lk__law_subject_at)))))))) ss_nil) (ss_cons (s_if (t_cmp (fun _ A => o_eq A) (e_bin (fun _ A => o_mod A) (e_cty (fun _ A => c_int A) T.no_int rfl (a_cons (e_bin (fun _ A => o_div A) (e_ix (e_var (i := 0) rfl (Or.inl lk__law_subject_numbers)) e_int) e_int) a_nil) lk__law_subject_int) e_int) e_int) (ss_one (s_set ⟨nd__law_subject, rfl, Or.inr lk__law_subject_tasks, Or.inl rfl⟩ (e_lc (own := [("k", 6)]) nd__law_subject (by dsimp only; decide +kernel) rfl rfl (i_rg1 T.no_range (a_cons (e_var (i := 2) rfl (Or.inr (Or.inl lk__law_subject_many))) a_nil) lk__law_subject_range) (fun _ => (g_nm ⟨nd__law_subject, rfl, (by first | exact Or.inl rfl | exact Or.inr rfl), (by first | exact Or.inl rfl | exact Or.inr rfl)⟩)) (fun _ => ts_no) (fun _ => (e_ix (e_var (i := 5) rfl ) (e_bin (fun _ A => o_sub A) (e_bin (fun _ A => o_sub A) (e_var (i := 2) rfl ) e_int) (e_var (i := 6) rfl ))))) (fun _ h => sw_cell (by rw [h]; exact lk__law_subject_tasks)))) ss_nil) (ss_one (s_ret (e_tup (a_cons (e_cty (fun _ A => c_tup A) T.no_tuple rfl (a_cons (e_var (i := 5) rfl (Or.inr (Or.inl lk__law_subject_tasks))) a_nil) lk__law_subject_tuple) (a_cons (e_call h__law_due (a_cons (e_cty (fun _ A => c_tup A) T.no_tuple rfl (a_cons (e_var (i := 5) rfl (Or.inr (Or.inl lk__law_subject_tasks))) a_nil) lk__law_subject_tuple) (a_cons (e_ix (e_var (i := 0) rfl (Or.inl lk__law_subject_numbers)) e_int) a_nil)) lk__law_subject__law_due) a_nil)))))))))))))
theorem sc__law_latest : FnScope ["tasks", "due", "starts", "days", "turn", "name", "long", "after", "before"] ["tasks", "due"] (defScope st__law_latest) := ⟨rfl, rfl, rfl, by decide +kernel, rfl, by decide +kernel, by decide +kernel⟩
theorem nd__law_latest : (["tasks", "due", "starts", "days", "turn", "name", "long", "after", "before"] : List Str).Nodup := sc__law_latest.nd
theorem kd__law_latest : (defScope st__law_latest).kind = .function := rfl
theorem lk__law_latest_after : (defScope st__law_latest).names.lookup ("after" : Str) = some .local := by decide +kernel
theorem lk__law_latest_before : (defScope st__law_latest).names.lookup ("before" : Str) = some .local := by decide +kernel
theorem lk__law_latest_days : (defScope st__law_latest).names.lookup ("days" : Str) = some .local := by decide +kernel
theorem lk__law_latest_due : (defScope st__law_latest).names.lookup ("due" : Str) = some .local := by decide +kernel
theorem lk__law_latest_len : (defScope st__law_latest).names.lookup ("len" : Str) = some .globalImplicit := by decide +kernel
theorem lk__law_latest_long : (defScope st__law_latest).names.lookup ("long" : Str) = some .local := by decide +kernel
theorem lk__law_latest_min : (defScope st__law_latest).names.lookup ("min" : Str) = some .globalImplicit := by decide +kernel
theorem lk__law_latest_name : (defScope st__law_latest).names.lookup ("name" : Str) = some .local := by decide +kernel
theorem lk__law_latest_range : (defScope st__law_latest).names.lookup ("range" : Str) = some .globalImplicit := by decide +kernel
theorem lk__law_latest_starts : (defScope st__law_latest).names.lookup ("starts" : Str) = some .local := by decide +kernel
theorem lk__law_latest_tasks : (defScope st__law_latest).names.lookup ("tasks" : Str) = some .local := by decide +kernel
theorem lk__law_latest_turn : (defScope st__law_latest).names.lookup ("turn" : Str) = some .local := by decide +kernel
theorem cal__law_latest (T : Txt K mg) : Cal0 P w K mg base 1 "_law_latest" 2 m__law_latest := by
  refine Cal0.of (k := 0) (m := 7) (f := b__law_latest) T.fn__law_latest sc__law_latest rfl rfl fun H0 => ?_
  exact (ss_cons (s_set ⟨nd__law_latest, rfl, Or.inl lk__law_latest_starts, Or.inl rfl⟩ e_dnewK) (ss_cons (s_for (i_val (e_var (i := 0) rfl (Or.inl lk__law_latest_tasks))) (g_tp (gs_cons (g_nm ⟨nd__law_latest, rfl, Or.inl lk__law_latest_name, Or.inl rfl⟩) (gs_cons (g_nm ⟨nd__law_latest, rfl, Or.inl lk__law_latest_long, Or.inl rfl⟩) (gs_cons (g_nm ⟨nd__law_latest, rfl, Or.inl lk__law_latest_after, Or.inl rfl⟩) gs_nil)))) (ss_one (s_asg (e_bin (fun _ A => o_sub A) (e_var (i := 1) rfl (Or.inl lk__law_latest_due)) (e_var (i := 6) rfl (Or.inl lk__law_latest_long))) (g_sub (i := 2) (e_var (i := 5) rfl (Or.inl lk__law_latest_name)) rfl (Or.inl lk__law_latest_starts))))) (ss_cons (s_set ⟨nd__law_latest, rfl, Or.inl lk__law_latest_days, Or.inl rfl⟩ e_dnewK) (ss_cons (s_for (i_val (e_var (i := 0) rfl (Or.inl lk__law_latest_tasks))) (g_tp (gs_cons (g_nm ⟨nd__law_latest, rfl, Or.inl lk__law_latest_name, Or.inl rfl⟩) (gs_cons (g_nm ⟨nd__law_latest, rfl, Or.inl lk__law_latest_long, Or.inl rfl⟩) (gs_cons (g_nm ⟨nd__law_latest, rfl, Or.inl lk__law_latest_after, Or.inl rfl⟩) gs_nil)))) (ss_one (s_asg (e_var (i := 6) rfl (Or.inl lk__law_latest_long)) (g_sub (i := 3) (e_var (i := 5) rfl (Or.inl lk__law_latest_name)) rfl (Or.inl lk__law_latest_days))))) (ss_cons (s_for (i_rg1 T.no_range (a_cons (e_bin (fun _ A => o_add A) (e_cb (fun _ A => c_len1 A) T.no_len rfl (a_cons (e_var (i := 0) rfl (Or.inl lk__law_latest_tasks)) a_nil) lk__law_latest_len) e_int) a_nil) lk__law_latest_range) (g_nm ⟨nd__law_latest, rfl, Or.inl lk__law_latest_turn, Or.inl rfl⟩) (ss_one (s_for (i_val (e_var (i := 0) rfl (Or.inl lk__law_latest_tasks))) (g_tp (gs_cons (g_nm ⟨nd__law_latest, rfl, Or.inl lk__law_latest_name, Or.inl rfl⟩) (gs_cons (g_nm ⟨nd__law_latest, rfl, Or.inl lk__law_latest_long, Or.inl rfl⟩) (gs_cons (g_nm ⟨nd__law_latest, rfl, Or.inl lk__law_latest_after, Or.inl rfl⟩) gs_nil)))) (ss_one (s_for (i_val (e_var (i := 7) rfl (Or.inl lk__law_latest_after))) (g_nm ⟨nd__law_latest, rfl, Or.inl lk__law_latest_before, Or.inl rfl⟩) (ss_one (s_asg (e_cb (fun _ A => c_min A) T.no_min rfl (a_cons (e_ix (e_var (i := 2) rfl (Or.inl lk__law_latest_starts)) (e_var (i := 8) rfl (Or.inl lk__law_latest_before))) (a_cons (e_bin (fun _ A => o_sub A) (e_ix (e_var (i := 2) rfl (Or.inl lk__law_latest_starts)) (e_var (i := 5) rfl (Or.inl lk__law_latest_name))) (e_ix (e_var (i := 3) rfl (Or.inl lk__law_latest_days)) (e_var (i := 8) rfl (Or.inl lk__law_latest_before)))) a_nil)) lk__law_latest_min) (g_sub (i := 2) (e_var (i := 8) rfl (Or.inl lk__law_latest_before)) rfl (Or.inl lk__law_latest_starts))))))))) (ss_one (s_ret (e_var (i := 2) rfl (Or.inl lk__law_latest_starts)))))))))
theorem sc__law_starts_to_try : FnScope ["tasks", "due", "number", "papers", "early", "late", "base", "at", "step", "task"] ["tasks", "due", "number"] (defScope st__law_starts_to_try) := ⟨rfl, rfl, rfl, by decide +kernel, rfl, by decide +kernel, by decide +kernel⟩
theorem nd__law_starts_to_try : (["tasks", "due", "number", "papers", "early", "late", "base", "at", "step", "task"] : List Str).Nodup := sc__law_starts_to_try.nd
theorem kd__law_starts_to_try : (defScope st__law_starts_to_try).kind = .function := rfl
theorem lk__law_starts_to_try__law_earliest : (defScope st__law_starts_to_try).names.lookup ("_law_earliest" : Str) = some .globalImplicit := by decide +kernel
theorem lk__law_starts_to_try__law_latest : (defScope st__law_starts_to_try).names.lookup ("_law_latest" : Str) = some .globalImplicit := by decide +kernel
theorem lk__law_starts_to_try_at : (defScope st__law_starts_to_try).names.lookup ("at" : Str) = some .local := by decide +kernel
theorem lk__law_starts_to_try_base : (defScope st__law_starts_to_try).names.lookup ("base" : Str) = some .local := by decide +kernel
theorem lk__law_starts_to_try_due : (defScope st__law_starts_to_try).names.lookup ("due" : Str) = some .local := by decide +kernel
theorem lk__law_starts_to_try_early : (defScope st__law_starts_to_try).names.lookup ("early" : Str) = some .cell := by decide +kernel
theorem lk__law_starts_to_try_int : (defScope st__law_starts_to_try).names.lookup ("int" : Str) = some .globalImplicit := by decide +kernel
theorem lk__law_starts_to_try_late : (defScope st__law_starts_to_try).names.lookup ("late" : Str) = some .cell := by decide +kernel
theorem lk__law_starts_to_try_len : (defScope st__law_starts_to_try).names.lookup ("len" : Str) = some .globalImplicit := by decide +kernel
theorem lk__law_starts_to_try_number : (defScope st__law_starts_to_try).names.lookup ("number" : Str) = some .local := by decide +kernel
theorem lk__law_starts_to_try_papers : (defScope st__law_starts_to_try).names.lookup ("papers" : Str) = some .local := by decide +kernel
theorem lk__law_starts_to_try_range : (defScope st__law_starts_to_try).names.lookup ("range" : Str) = some .globalImplicit := by decide +kernel
theorem lk__law_starts_to_try_step : (defScope st__law_starts_to_try).names.lookup ("step" : Str) = some .local := by decide +kernel
theorem lk__law_starts_to_try_tasks : (defScope st__law_starts_to_try).names.lookup ("tasks" : Str) = some .local := by decide +kernel
theorem lk__law_starts_to_try_tuple : (defScope st__law_starts_to_try).names.lookup ("tuple" : Str) = some .globalImplicit := by decide +kernel
theorem cal__law_starts_to_try (T : Txt K mg) : Cal0 P w K mg base 2 "_law_starts_to_try" 3 m__law_starts_to_try := by
  refine Cal0.of (k := 1) (m := 7) (f := b__law_starts_to_try) T.fn__law_starts_to_try sc__law_starts_to_try rfl rfl fun H0 => ?_
  have h__law_earliest : Cal ⟨P, w, K, mg, base, ["tasks", "due", "number", "papers", "early", "late", "base", "at", "step", "task"], defScope st__law_starts_to_try, fun _ => true, 1, H0, []⟩ "_law_earliest" 1 m__law_earliest := (cal__law_earliest T).cal (by decide)
  have h__law_latest : Cal ⟨P, w, K, mg, base, ["tasks", "due", "number", "papers", "early", "late", "base", "at", "step", "task"], defScope st__law_starts_to_try, fun _ => true, 1, H0, []⟩ "_law_latest" 2 m__law_latest := (cal__law_latest T).cal (by decide)
  exact (ss_cons (s_set ⟨nd__law_starts_to_try, rfl, Or.inl lk__law_starts_to_try_papers, Or.inl rfl⟩ (e_lst (a_cons (e_tup a_nil) (a_cons (e_cty (fun _ A => c_tup A) T.no_tuple rfl (a_cons (e_lc (own := [("task", 9)]) nd__law_starts_to_try (by dsimp only; decide +kernel) rfl rfl (i_val (e_var (i := 0) rfl (Or.inl lk__law_starts_to_try_tasks))) (fun _ => (g_nm ⟨nd__law_starts_to_try, rfl, (by first | exact Or.inl rfl | exact Or.inr rfl), (by first | exact Or.inl rfl | exact Or.inr rfl)⟩)) (fun _ => ts_no) (fun _ => e_int)) a_nil) lk__law_starts_to_try_tuple) a_nil)))) (ss_cons (s_set ⟨nd__law_starts_to_try, rfl, Or.inr lk__law_starts_to_try_early, Or.inl rfl⟩ (e_call h__law_earliest (a_cons (e_var (i := 0) rfl (Or.inl lk__law_starts_to_try_tasks)) a_nil) lk__law_starts_to_try__law_earliest)) (ss_cons (s_set ⟨nd__law_starts_to_try, rfl, Or.inr lk__law_starts_to_try_late, Or.inl rfl⟩ (e_call h__law_latest (a_cons (e_var (i := 0) rfl (Or.inl lk__law_starts_to_try_tasks)) (a_cons (e_var (i := 1) rfl (Or.inl lk__law_starts_to_try_due)) a_nil)) lk__law_starts_to_try__law_latest)) (ss_cons (s_if (t_cmp (fun _ A => o_isnot A) (e_var (i := 4) rfl (Or.inr (Or.inl lk__law_starts_to_try_early))) e_non) (ss_cons (s_ex (e_ml (i := 3) PySem.F.slot_list_append PySem.F.type_list_append (fun _ A => m_append A) (a_cons (e_cty (fun _ A => c_tup A) T.no_tuple rfl (a_cons (e_lc (own := [("task", 9)]) nd__law_starts_to_try (by dsimp only; decide +kernel) rfl rfl (i_val (e_var (i := 0) rfl (Or.inl lk__law_starts_to_try_tasks))) (fun _ => (g_nm ⟨nd__law_starts_to_try, rfl, (by first | exact Or.inl rfl | exact Or.inr rfl), (by first | exact Or.inl rfl | exact Or.inr rfl)⟩)) (fun _ => ts_no) (fun _ => (e_ix (e_var (i := 4) rfl ) (e_ix (e_var (i := 9) rfl ) e_int)))) a_nil) lk__law_starts_to_try_tuple) a_nil) rfl (Or.inl lk__law_starts_to_try_papers))) (ss_one (s_ex (e_ml (i := 3) PySem.F.slot_list_append PySem.F.type_list_append (fun _ A => m_append A) (a_cons (e_cty (fun _ A => c_tup A) T.no_tuple rfl (a_cons (e_lc (own := [("task", 9)]) nd__law_starts_to_try (by dsimp only; decide +kernel) rfl rfl (i_val (e_var (i := 0) rfl (Or.inl lk__law_starts_to_try_tasks))) (fun _ => (g_nm ⟨nd__law_starts_to_try, rfl, (by first | exact Or.inl rfl | exact Or.inr rfl), (by first | exact Or.inl rfl | exact Or.inr rfl)⟩)) (fun _ => ts_no) (fun _ => (e_bin (fun _ A => o_div A) (e_bin (fun _ A => o_add A) (e_ix (e_var (i := 4) rfl ) (e_ix (e_var (i := 9) rfl ) e_int)) (e_ix (e_var (i := 5) rfl ) (e_ix (e_var (i := 9) rfl ) e_int))) e_int))) a_nil) lk__law_starts_to_try_tuple) a_nil) rfl (Or.inl lk__law_starts_to_try_papers))))) ss_nil) (ss_cons (s_ex (e_ml (i := 3) PySem.F.slot_list_append PySem.F.type_list_append (fun _ A => m_append A) (a_cons (e_cty (fun _ A => c_tup A) T.no_tuple rfl (a_cons (e_lc (own := [("task", 9)]) nd__law_starts_to_try (by dsimp only; decide +kernel) rfl rfl (i_val (e_var (i := 0) rfl (Or.inl lk__law_starts_to_try_tasks))) (fun _ => (g_nm ⟨nd__law_starts_to_try, rfl, (by first | exact Or.inl rfl | exact Or.inr rfl), (by first | exact Or.inl rfl | exact Or.inr rfl)⟩)) (fun _ => ts_no) (fun _ => (e_ix (e_var (i := 5) rfl ) (e_ix (e_var (i := 9) rfl ) e_int)))) a_nil) lk__law_starts_to_try_tuple) a_nil) rfl (Or.inl lk__law_starts_to_try_papers))) (ss_cons (s_set ⟨nd__law_starts_to_try, rfl, Or.inl lk__law_starts_to_try_base, Or.inl rfl⟩ (e_ix (e_var (i := 3) rfl (Or.inl lk__law_starts_to_try_papers)) (e_bin (fun _ A => o_mod A) (e_cty (fun _ A => c_int A) T.no_int rfl (a_cons (e_var (i := 2) rfl (Or.inl lk__law_starts_to_try_number)) a_nil) lk__law_starts_to_try_int) (e_cb (fun _ A => c_len1 A) T.no_len rfl (a_cons (e_var (i := 3) rfl (Or.inl lk__law_starts_to_try_papers)) a_nil) lk__law_starts_to_try_len)))) (ss_cons (s_for (i_rg1 T.no_range (a_cons (e_cb (fun _ A => c_len1 A) T.no_len rfl (a_cons (e_var (i := 6) rfl (Or.inl lk__law_starts_to_try_base)) a_nil) lk__law_starts_to_try_len) a_nil) lk__law_starts_to_try_range) (g_nm ⟨nd__law_starts_to_try, rfl, Or.inl lk__law_starts_to_try_at, Or.inl rfl⟩) (ss_cons (s_for (i_val (e_lst (a_cons (e_un (fun _ A => o_neg A) e_int) (a_cons e_int (a_cons (e_un (fun _ A => o_neg A) e_int) (a_cons e_int a_nil)))))) (g_nm ⟨nd__law_starts_to_try, rfl, Or.inl lk__law_starts_to_try_step, Or.inl rfl⟩) (ss_one (s_ex (e_ml (i := 3) PySem.F.slot_list_append PySem.F.type_list_append (fun _ A => m_append A) (a_cons (e_bin (fun _ A => o_add A) (e_bin (fun _ A => o_add A) (e_sl (e_var (i := 6) rfl (Or.inl lk__law_starts_to_try_base)) p_no (p_so (e_var (i := 7) rfl (Or.inl lk__law_starts_to_try_at)))) (e_tup (a_cons (e_bin (fun _ A => o_add A) (e_ix (e_var (i := 6) rfl (Or.inl lk__law_starts_to_try_base)) (e_var (i := 7) rfl (Or.inl lk__law_starts_to_try_at))) (e_var (i := 8) rfl (Or.inl lk__law_starts_to_try_step))) a_nil))) (e_sl (e_var (i := 6) rfl (Or.inl lk__law_starts_to_try_base)) (p_so (e_bin (fun _ A => o_add A) (e_var (i := 7) rfl (Or.inl lk__law_starts_to_try_at)) e_int)) p_no)) a_nil) rfl (Or.inl lk__law_starts_to_try_papers))))) (ss_cons (s_ex (e_ml (i := 3) PySem.F.slot_list_append PySem.F.type_list_append (fun _ A => m_append A) (a_cons (e_bin (fun _ A => o_add A) (e_sl (e_var (i := 6) rfl (Or.inl lk__law_starts_to_try_base)) p_no (p_so (e_var (i := 7) rfl (Or.inl lk__law_starts_to_try_at)))) (e_sl (e_var (i := 6) rfl (Or.inl lk__law_starts_to_try_base)) (p_so (e_bin (fun _ A => o_add A) (e_var (i := 7) rfl (Or.inl lk__law_starts_to_try_at)) e_int)) p_no)) a_nil) rfl (Or.inl lk__law_starts_to_try_papers))) (ss_one (s_ex (e_ml (i := 3) PySem.F.slot_list_append PySem.F.type_list_append (fun _ A => m_append A) (a_cons (e_bin (fun _ A => o_add A) (e_sl (e_var (i := 6) rfl (Or.inl lk__law_starts_to_try_base)) p_no (p_so (e_bin (fun _ A => o_add A) (e_var (i := 7) rfl (Or.inl lk__law_starts_to_try_at)) e_int))) (e_sl (e_var (i := 6) rfl (Or.inl lk__law_starts_to_try_base)) (p_so (e_var (i := 7) rfl (Or.inl lk__law_starts_to_try_at))) p_no)) a_nil) rfl (Or.inl lk__law_starts_to_try_papers))))))) (ss_one (s_ret (e_var (i := 3) rfl (Or.inl lk__law_starts_to_try_papers)))))))))))
theorem sc__law_stranger : FnScope ["pool", "sign"] ["pool"] (defScope st__law_stranger) := ⟨rfl, rfl, rfl, by decide +kernel, rfl, by decide +kernel, by decide +kernel⟩
theorem nd__law_stranger : (["pool", "sign"] : List Str).Nodup := sc__law_stranger.nd
theorem kd__law_stranger : (defScope st__law_stranger).kind = .function := rfl
theorem lk__law_stranger_pool : (defScope st__law_stranger).names.lookup ("pool" : Str) = some .local := by decide +kernel
theorem lk__law_stranger_sign : (defScope st__law_stranger).names.lookup ("sign" : Str) = some .local := by decide +kernel
theorem cal__law_stranger (T : Txt K mg) : Cal0 P w K mg base 1 "_law_stranger" 1 m__law_stranger := by
  refine Cal0.of (k := 0) (m := 1) (f := b__law_stranger) T.fn__law_stranger sc__law_stranger rfl rfl fun H0 => ?_
  exact (ss_cons (s_for (i_val e_str) (g_nm ⟨nd__law_stranger, rfl, Or.inl lk__law_stranger_sign, Or.inl rfl⟩) (ss_one (s_if (t_cmp (fun _ A => o_notin A) (e_bin (fun _ A => o_add A) (e_var (i := 1) rfl (Or.inl lk__law_stranger_sign)) e_str) (e_var (i := 0) rfl (Or.inl lk__law_stranger_pool))) (ss_one (s_ret (e_bin (fun _ A => o_add A) (e_var (i := 1) rfl (Or.inl lk__law_stranger_sign)) e_str))) ss_nil))) (ss_one (s_ret e_str)))
theorem sc__law_walk : FnScope ["rows", "name", "number", "most", "walk", "digits", "k", "before", "one"] ["rows", "name", "number", "most"] (defScope st__law_walk) := ⟨rfl, rfl, rfl, by decide +kernel, rfl, by decide +kernel, by decide +kernel⟩
theorem nd__law_walk : (["rows", "name", "number", "most", "walk", "digits", "k", "before", "one"] : List Str).Nodup := sc__law_walk.nd
theorem kd__law_walk : (defScope st__law_walk).kind = .function := rfl
theorem lk__law_walk_before : (defScope st__law_walk).names.lookup ("before" : Str) = some .local := by decide +kernel
theorem lk__law_walk_digits : (defScope st__law_walk).names.lookup ("digits" : Str) = some .local := by decide +kernel
theorem lk__law_walk_int : (defScope st__law_walk).names.lookup ("int" : Str) = some .globalImplicit := by decide +kernel
theorem lk__law_walk_k : (defScope st__law_walk).names.lookup ("k" : Str) = some .local := by decide +kernel
theorem lk__law_walk_len : (defScope st__law_walk).names.lookup ("len" : Str) = some .globalImplicit := by decide +kernel
theorem lk__law_walk_most : (defScope st__law_walk).names.lookup ("most" : Str) = some .local := by decide +kernel
theorem lk__law_walk_name : (defScope st__law_walk).names.lookup ("name" : Str) = some .local := by decide +kernel
theorem lk__law_walk_number : (defScope st__law_walk).names.lookup ("number" : Str) = some .local := by decide +kernel
theorem lk__law_walk_range : (defScope st__law_walk).names.lookup ("range" : Str) = some .globalImplicit := by decide +kernel
theorem lk__law_walk_rows : (defScope st__law_walk).names.lookup ("rows" : Str) = some .local := by decide +kernel
theorem lk__law_walk_tuple : (defScope st__law_walk).names.lookup ("tuple" : Str) = some .globalImplicit := by decide +kernel
theorem lk__law_walk_walk : (defScope st__law_walk).names.lookup ("walk" : Str) = some .cell := by decide +kernel
theorem cal__law_walk (T : Txt K mg) : Cal0 P w K mg base 1 "_law_walk" 4 m__law_walk := by
  refine Cal0.of (k := 0) (m := 5) (f := b__law_walk) T.fn__law_walk sc__law_walk rfl rfl fun H0 => ?_
  exact (ss_cons (s_set ⟨nd__law_walk, rfl, Or.inr lk__law_walk_walk, Or.inl rfl⟩ (e_lst (a_cons (e_var (i := 1) rfl (Or.inl lk__law_walk_name)) a_nil))) (ss_cons (s_set ⟨nd__law_walk, rfl, Or.inl lk__law_walk_digits, Or.inl rfl⟩ (e_var (i := 2) rfl (Or.inl lk__law_walk_number))) (ss_cons (s_for (i_rg1 T.no_range (a_cons e_int a_nil) lk__law_walk_range) (g_nm ⟨nd__law_walk, rfl, Or.inl lk__law_walk_k, Or.inl rfl⟩) (ss_cons (s_lc (own := [("one", 8)]) ⟨nd__law_walk, rfl, Or.inl lk__law_walk_before, Or.inl rfl⟩ lk__law_walk_before rfl (by decide +kernel) kd__law_walk (by dsimp only; decide +kernel) rfl rfl (i_val (e_ix (e_ix (e_var (i := 0) rfl (Or.inl lk__law_walk_rows)) (e_ix (e_var (i := 4) rfl (Or.inr (Or.inl lk__law_walk_walk))) e_int)) e_int)) (fun _ => (g_nm ⟨nd__law_walk, rfl, (by first | exact Or.inl rfl | exact Or.inr rfl), (by first | exact Or.inl rfl | exact Or.inr rfl)⟩)) (fun _ => (ts_one (t_cmp (fun _ A => o_notin A) (e_var (i := 8) rfl ) (e_var (i := 4) rfl )))) (fun _ => (e_var (i := 8) rfl ))) (ss_cons (s_if (t_w (w_and (t_cmp (fun _ A => o_gt A) (e_cb (fun _ A => c_len1 A) T.no_len rfl (a_cons (e_var (i := 7) rfl (Or.inl lk__law_walk_before)) a_nil) lk__law_walk_len) e_int) (w_and1 (t_cmp (fun _ A => o_lt A) (e_cb (fun _ A => c_len1 A) T.no_len rfl (a_cons (e_var (i := 4) rfl (Or.inr (Or.inl lk__law_walk_walk))) a_nil) lk__law_walk_len) (e_var (i := 3) rfl (Or.inl lk__law_walk_most)))))) (ss_one (s_set ⟨nd__law_walk, rfl, Or.inr lk__law_walk_walk, Or.inl rfl⟩ (e_bin (fun _ A => o_add A) (e_lst (a_cons (e_ix (e_var (i := 7) rfl (Or.inl lk__law_walk_before)) (e_bin (fun _ A => o_mod A) (e_cty (fun _ A => c_int A) T.no_int rfl (a_cons (e_var (i := 5) rfl (Or.inl lk__law_walk_digits)) a_nil) lk__law_walk_int) (e_cb (fun _ A => c_len1 A) T.no_len rfl (a_cons (e_var (i := 7) rfl (Or.inl lk__law_walk_before)) a_nil) lk__law_walk_len))) a_nil)) (e_var (i := 4) rfl (Or.inr (Or.inl lk__law_walk_walk)))))) ss_nil) (ss_one (s_set ⟨nd__law_walk, rfl, Or.inl lk__law_walk_digits, Or.inl rfl⟩ (e_bin (fun _ A => o_add A) (e_bin (fun _ A => o_div A) (e_var (i := 5) rfl (Or.inl lk__law_walk_digits)) e_int) (e_var (i := 6) rfl (Or.inl lk__law_walk_k)))))))) (ss_one (s_ret (e_cty (fun _ A => c_tup A) T.no_tuple rfl (a_cons (e_var (i := 4) rfl (Or.inr (Or.inl lk__law_walk_walk))) a_nil) lk__law_walk_tuple))))))
theorem sc__law_names_to_try : FnScope ["tasks", "numbers", "rows", "task", "papers", "k", "base", "other", "at", "number"] ["tasks", "numbers"] (defScope st__law_names_to_try) := ⟨rfl, rfl, rfl, by decide +kernel, rfl, by decide +kernel, by decide +kernel⟩
theorem nd__law_names_to_try : (["tasks", "numbers", "rows", "task", "papers", "k", "base", "other", "at", "number"] : List Str).Nodup := sc__law_names_to_try.nd
theorem kd__law_names_to_try : (defScope st__law_names_to_try).kind = .function := rfl
theorem lk__law_names_to_try__law_stranger : (defScope st__law_names_to_try).names.lookup ("_law_stranger" : Str) = some .globalImplicit := by decide +kernel
theorem lk__law_names_to_try__law_walk : (defScope st__law_names_to_try).names.lookup ("_law_walk" : Str) = some .globalImplicit := by decide +kernel
theorem lk__law_names_to_try_at : (defScope st__law_names_to_try).names.lookup ("at" : Str) = some .local := by decide +kernel
theorem lk__law_names_to_try_base : (defScope st__law_names_to_try).names.lookup ("base" : Str) = some .cell := by decide +kernel
theorem lk__law_names_to_try_int : (defScope st__law_names_to_try).names.lookup ("int" : Str) = some .globalImplicit := by decide +kernel
theorem lk__law_names_to_try_k : (defScope st__law_names_to_try).names.lookup ("k" : Str) = some .local := by decide +kernel
theorem lk__law_names_to_try_len : (defScope st__law_names_to_try).names.lookup ("len" : Str) = some .globalImplicit := by decide +kernel
theorem lk__law_names_to_try_number : (defScope st__law_names_to_try).names.lookup ("number" : Str) = some .local := by decide +kernel
theorem lk__law_names_to_try_numbers : (defScope st__law_names_to_try).names.lookup ("numbers" : Str) = some .local := by decide +kernel
theorem lk__law_names_to_try_other : (defScope st__law_names_to_try).names.lookup ("other" : Str) = some .local := by decide +kernel
theorem lk__law_names_to_try_papers : (defScope st__law_names_to_try).names.lookup ("papers" : Str) = some .local := by decide +kernel
theorem lk__law_names_to_try_range : (defScope st__law_names_to_try).names.lookup ("range" : Str) = some .globalImplicit := by decide +kernel
theorem lk__law_names_to_try_rows : (defScope st__law_names_to_try).names.lookup ("rows" : Str) = some .local := by decide +kernel
theorem lk__law_names_to_try_task : (defScope st__law_names_to_try).names.lookup ("task" : Str) = some .local := by decide +kernel
theorem lk__law_names_to_try_tasks : (defScope st__law_names_to_try).names.lookup ("tasks" : Str) = some .local := by decide +kernel
theorem lk__law_names_to_try_tuple : (defScope st__law_names_to_try).names.lookup ("tuple" : Str) = some .globalImplicit := by decide +kernel
theorem cal__law_names_to_try (T : Txt K mg) : Cal0 P w K mg base 2 "_law_names_to_try" 2 m__law_names_to_try := by
  refine Cal0.of (k := 1) (m := 8) (f := b__law_names_to_try) T.fn__law_names_to_try sc__law_names_to_try rfl rfl fun H0 => ?_
  have h__law_stranger : Cal ⟨P, w, K, mg, base, ["tasks", "numbers", "rows", "task", "papers", "k", "base", "other", "at", "number"], defScope st__law_names_to_try, fun _ => true, 1, H0, []⟩ "_law_stranger" 1 m__law_stranger := (cal__law_stranger T).cal (by decide)
  have h__law_walk : Cal ⟨P, w, K, mg, base, ["tasks", "numbers", "rows", "task", "papers", "k", "base", "other", "at", "number"], defScope st__law_names_to_try, fun _ => true, 1, H0, []⟩ "_law_walk" 4 m__law_walk := (cal__law_walk T).cal (by decide)
  exact (ss_cons (s_set ⟨nd__law_names_to_try, rfl, Or.inl lk__law_names_to_try_rows, Or.inl rfl⟩ e_dnewK) (ss_cons (s_for (i_val (e_var (i := 0) rfl (Or.inl lk__law_names_to_try_tasks))) (g_nm ⟨nd__law_names_to_try, rfl, Or.inl lk__law_names_to_try_task, Or.inl rfl⟩) (ss_one (s_asg (e_var (i := 3) rfl (Or.inl lk__law_names_to_try_task)) (g_sub (i := 2) (e_ix (e_var (i := 3) rfl (Or.inl lk__law_names_to_try_task)) e_int) rfl (Or.inl lk__law_names_to_try_rows))))) (ss_cons (s_set ⟨nd__law_names_to_try, rfl, Or.inl lk__law_names_to_try_papers, Or.inl rfl⟩ (e_lst (a_cons (e_tup a_nil) (a_cons (e_cty (fun _ A => c_tup A) T.no_tuple rfl (a_cons (e_lc (own := [("task", 3)]) nd__law_names_to_try (by dsimp only; decide +kernel) rfl rfl (i_val (e_var (i := 0) rfl (Or.inl lk__law_names_to_try_tasks))) (fun _ => (g_nm ⟨nd__law_names_to_try, rfl, (by first | exact Or.inl rfl | exact Or.inr rfl), (by first | exact Or.inl rfl | exact Or.inr rfl)⟩)) (fun _ => ts_no) (fun _ => (e_ix (e_var (i := 3) rfl ) e_int))) a_nil) lk__law_names_to_try_tuple) a_nil)))) (ss_cons (s_for (i_rg1 T.no_range (a_cons (e_cb (fun _ A => c_len1 A) T.no_len rfl (a_cons (e_var (i := 0) rfl (Or.inl lk__law_names_to_try_tasks)) a_nil) lk__law_names_to_try_len) a_nil) lk__law_names_to_try_range) (g_nm ⟨nd__law_names_to_try, rfl, Or.inl lk__law_names_to_try_k, Or.inl rfl⟩) (ss_cons (s_set ⟨nd__law_names_to_try, rfl, Or.inl lk__law_names_to_try_number, Or.inl rfl⟩ (e_ix (e_var (i := 1) rfl (Or.inl lk__law_names_to_try_numbers)) (e_var (i := 5) rfl (Or.inl lk__law_names_to_try_k)))) (ss_cons (s_ex (e_ml (i := 4) PySem.F.slot_list_append PySem.F.type_list_append (fun _ A => m_append A) (a_cons (e_call h__law_walk (a_cons (e_var (i := 2) rfl (Or.inl lk__law_names_to_try_rows)) (a_cons (e_ix (e_ix (e_var (i := 0) rfl (Or.inl lk__law_names_to_try_tasks)) (e_var (i := 5) rfl (Or.inl lk__law_names_to_try_k))) e_int) (a_cons (e_bin (fun _ A => o_div A) (e_var (i := 9) rfl (Or.inl lk__law_names_to_try_number)) e_int) (a_cons e_int a_nil)))) lk__law_names_to_try__law_walk) a_nil) rfl (Or.inl lk__law_names_to_try_papers))) (ss_one (s_ex (e_ml (i := 4) PySem.F.slot_list_append PySem.F.type_list_append (fun _ A => m_append A) (a_cons (e_call h__law_walk (a_cons (e_var (i := 2) rfl (Or.inl lk__law_names_to_try_rows)) (a_cons (e_ix (e_ix (e_var (i := 0) rfl (Or.inl lk__law_names_to_try_tasks)) (e_var (i := 5) rfl (Or.inl lk__law_names_to_try_k))) e_int) (a_cons (e_bin (fun _ A => o_div A) (e_var (i := 9) rfl (Or.inl lk__law_names_to_try_number)) e_int) (a_cons (e_bin (fun _ A => o_add A) e_int (e_bin (fun _ A => o_mod A) (e_cty (fun _ A => c_int A) T.no_int rfl (a_cons (e_var (i := 9) rfl (Or.inl lk__law_names_to_try_number)) a_nil) lk__law_names_to_try_int) e_int)) a_nil)))) lk__law_names_to_try__law_walk) a_nil) rfl (Or.inl lk__law_names_to_try_papers))))))) (ss_cons (s_set ⟨nd__law_names_to_try, rfl, Or.inr lk__law_names_to_try_base, Or.inl rfl⟩ (e_ix (e_var (i := 4) rfl (Or.inl lk__law_names_to_try_papers)) (e_bin (fun _ A => o_mod A) (e_cty (fun _ A => c_int A) T.no_int rfl (a_cons (e_ix (e_var (i := 1) rfl (Or.inl lk__law_names_to_try_numbers)) e_int) a_nil) lk__law_names_to_try_int) (e_cb (fun _ A => c_len1 A) T.no_len rfl (a_cons (e_var (i := 4) rfl (Or.inl lk__law_names_to_try_papers)) a_nil) lk__law_names_to_try_len)))) (ss_cons (s_set ⟨nd__law_names_to_try, rfl, Or.inl lk__law_names_to_try_other, Or.inl rfl⟩ (e_call h__law_stranger (a_cons (e_lc (own := [("task", 3)]) nd__law_names_to_try (by dsimp only; decide +kernel) rfl rfl (i_val (e_var (i := 0) rfl (Or.inl lk__law_names_to_try_tasks))) (fun _ => (g_nm ⟨nd__law_names_to_try, rfl, (by first | exact Or.inl rfl | exact Or.inr rfl), (by first | exact Or.inl rfl | exact Or.inr rfl)⟩)) (fun _ => ts_no) (fun _ => (e_ix (e_var (i := 3) rfl ) e_int))) a_nil) lk__law_names_to_try__law_stranger)) (ss_cons (s_for (i_rg1 T.no_range (a_cons (e_cb (fun _ A => c_len1 A) T.no_len rfl (a_cons (e_var (i := 6) rfl (Or.inr (Or.inl lk__law_names_to_try_base))) a_nil) lk__law_names_to_try_len) a_nil) lk__law_names_to_try_range) (g_nm ⟨nd__law_names_to_try, rfl, Or.inl lk__law_names_to_try_at, Or.inl rfl⟩) (ss_cons (s_ex (e_ml (i := 4) PySem.F.slot_list_append PySem.F.type_list_append (fun _ A => m_append A) (a_cons (e_bin (fun _ A => o_add A) (e_sl (e_var (i := 6) rfl (Or.inr (Or.inl lk__law_names_to_try_base))) p_no (p_so (e_var (i := 8) rfl (Or.inl lk__law_names_to_try_at)))) (e_sl (e_var (i := 6) rfl (Or.inr (Or.inl lk__law_names_to_try_base))) (p_so (e_bin (fun _ A => o_add A) (e_var (i := 8) rfl (Or.inl lk__law_names_to_try_at)) e_int)) p_no)) a_nil) rfl (Or.inl lk__law_names_to_try_papers))) (ss_cons (s_ex (e_ml (i := 4) PySem.F.slot_list_append PySem.F.type_list_append (fun _ A => m_append A) (a_cons (e_bin (fun _ A => o_add A) (e_sl (e_var (i := 6) rfl (Or.inr (Or.inl lk__law_names_to_try_base))) (p_so (e_var (i := 8) rfl (Or.inl lk__law_names_to_try_at))) p_no) (e_sl (e_var (i := 6) rfl (Or.inr (Or.inl lk__law_names_to_try_base))) p_no (p_so (e_var (i := 8) rfl (Or.inl lk__law_names_to_try_at))))) a_nil) rfl (Or.inl lk__law_names_to_try_papers))) (ss_cons (s_ex (e_ml (i := 4) PySem.F.slot_list_append PySem.F.type_list_append (fun _ A => m_append A) (a_cons (e_bin (fun _ A => o_add A) (e_sl (e_var (i := 6) rfl (Or.inr (Or.inl lk__law_names_to_try_base))) p_no (p_so (e_bin (fun _ A => o_add A) (e_var (i := 8) rfl (Or.inl lk__law_names_to_try_at)) e_int))) (e_sl (e_var (i := 6) rfl (Or.inr (Or.inl lk__law_names_to_try_base))) (p_so (e_var (i := 8) rfl (Or.inl lk__law_names_to_try_at))) p_no)) a_nil) rfl (Or.inl lk__law_names_to_try_papers))) (ss_cons (s_ex (e_ml (i := 4) PySem.F.slot_list_append PySem.F.type_list_append (fun _ A => m_append A) (a_cons (e_bin (fun _ A => o_add A) (e_bin (fun _ A => o_add A) (e_sl (e_var (i := 6) rfl (Or.inr (Or.inl lk__law_names_to_try_base))) p_no (p_so (e_var (i := 8) rfl (Or.inl lk__law_names_to_try_at)))) (e_tup (a_cons (e_var (i := 7) rfl (Or.inl lk__law_names_to_try_other)) a_nil))) (e_sl (e_var (i := 6) rfl (Or.inr (Or.inl lk__law_names_to_try_base))) (p_so (e_bin (fun _ A => o_add A) (e_var (i := 8) rfl (Or.inl lk__law_names_to_try_at)) e_int)) p_no)) a_nil) rfl (Or.inl lk__law_names_to_try_papers))) (ss_one (s_ex (e_ml (i := 4) PySem.F.slot_list_append PySem.F.type_list_append (fun _ A => m_append A) (a_cons (e_sl (e_var (i := 6) rfl (Or.inr (Or.inl lk__law_names_to_try_base))) p_no (p_so (e_var (i := 8) rfl (Or.inl lk__law_names_to_try_at)))) a_nil) rfl (Or.inl lk__law_names_to_try_papers))))))))) (ss_cons (s_ex (e_ml (i := 4) PySem.F.slot_list_append PySem.F.type_list_append (fun _ A => m_append A) (a_cons (e_cty (fun _ A => c_tup A) T.no_tuple rfl (a_cons (e_lc (own := [("k", 5)]) nd__law_names_to_try (by dsimp only; decide +kernel) rfl rfl (i_rg1 T.no_range (a_cons (e_cb (fun _ A => c_len1 A) T.no_len rfl (a_cons (e_var (i := 6) rfl (Or.inr (Or.inl lk__law_names_to_try_base))) a_nil) lk__law_names_to_try_len) a_nil) lk__law_names_to_try_range) (fun _ => (g_nm ⟨nd__law_names_to_try, rfl, (by first | exact Or.inl rfl | exact Or.inr rfl), (by first | exact Or.inl rfl | exact Or.inr rfl)⟩)) (fun _ => ts_no) (fun _ => (e_ix (e_var (i := 6) rfl ) (e_bin (fun _ A => o_sub A) (e_bin (fun _ A => o_sub A) (e_cb (fun _ A => c_len1 A) T.no_len rfl (a_cons (e_var (i := 6) rfl ) a_nil) ) e_int) (e_var (i := 5) rfl ))))) a_nil) lk__law_names_to_try_tuple) a_nil) rfl (Or.inl lk__law_names_to_try_papers))) (ss_cons (s_ex (e_ml (i := 4) PySem.F.slot_list_append PySem.F.type_list_append (fun _ A => m_append A) (a_cons (e_tup (a_cons (e_var (i := 7) rfl (Or.inl lk__law_names_to_try_other)) a_nil)) a_nil) rfl (Or.inl lk__law_names_to_try_papers))) (ss_one (s_ret (e_var (i := 4) rfl (Or.inl lk__law_names_to_try_papers)))))))))))))
theorem sc__law_wrong_shapes : FnScope ["word", "paper"] ["word", "paper"] (defScope st__law_wrong_shapes) := ⟨rfl, rfl, rfl, by decide +kernel, rfl, by decide +kernel, by decide +kernel⟩
theorem nd__law_wrong_shapes : (["word", "paper"] : List Str).Nodup := sc__law_wrong_shapes.nd
theorem kd__law_wrong_shapes : (defScope st__law_wrong_shapes).kind = .function := rfl
theorem lk__law_wrong_shapes_paper : (defScope st__law_wrong_shapes).names.lookup ("paper" : Str) = some .local := by decide +kernel
theorem lk__law_wrong_shapes_word : (defScope st__law_wrong_shapes).names.lookup ("word" : Str) = some .local := by decide +kernel
theorem cal__law_wrong_shapes (T : Txt K mg) : Cal0 P w K mg base 1 "_law_wrong_shapes" 2 m__law_wrong_shapes := by
  refine Cal0.of (k := 0) (m := 0) (f := b__law_wrong_shapes) T.fn__law_wrong_shapes sc__law_wrong_shapes rfl rfl fun H0 => ?_
  exact (ss_one (s_ret (e_lst (a_cons (e_lst (a_cons (e_var (i := 0) rfl (Or.inl lk__law_wrong_shapes_word)) (a_cons (e_var (i := 1) rfl (Or.inl lk__law_wrong_shapes_paper)) a_nil))) (a_cons (e_tup (a_cons (e_var (i := 0) rfl (Or.inl lk__law_wrong_shapes_word)) a_nil)) (a_cons (e_tup (a_cons (e_var (i := 0) rfl (Or.inl lk__law_wrong_shapes_word)) (a_cons (e_var (i := 1) rfl (Or.inl lk__law_wrong_shapes_paper)) (a_cons (e_var (i := 1) rfl (Or.inl lk__law_wrong_shapes_paper)) a_nil)))) (a_cons (e_tup (a_cons (e_var (i := 0) rfl (Or.inl lk__law_wrong_shapes_word)) (a_cons (e_var (i := 1) rfl (Or.inl lk__law_wrong_shapes_paper)) (a_cons e_non a_nil)))) (a_cons (e_tup (a_cons (e_var (i := 1) rfl (Or.inl lk__law_wrong_shapes_paper)) (a_cons (e_var (i := 0) rfl (Or.inl lk__law_wrong_shapes_word)) a_nil))) (a_cons (e_tup (a_cons (e_bin (fun _ A => o_add A) (e_var (i := 0) rfl (Or.inl lk__law_wrong_shapes_word)) e_str) (a_cons (e_var (i := 1) rfl (Or.inl lk__law_wrong_shapes_paper)) a_nil))) (a_cons (e_tup (a_cons e_str (a_cons (e_var (i := 1) rfl (Or.inl lk__law_wrong_shapes_paper)) a_nil))) (a_cons (e_tup (a_cons e_non (a_cons (e_var (i := 1) rfl (Or.inl lk__law_wrong_shapes_paper)) a_nil))) (a_cons (e_tup (a_cons e_bl (a_cons (e_var (i := 1) rfl (Or.inl lk__law_wrong_shapes_paper)) a_nil))) (a_cons (e_tup (a_cons (e_var (i := 0) rfl (Or.inl lk__law_wrong_shapes_word)) (a_cons e_non a_nil))) (a_cons (e_tup (a_cons (e_var (i := 0) rfl (Or.inl lk__law_wrong_shapes_word)) (a_cons e_bl a_nil))) (a_cons (e_tup (a_cons (e_var (i := 0) rfl (Or.inl lk__law_wrong_shapes_word)) (a_cons (e_var (i := 0) rfl (Or.inl lk__law_wrong_shapes_word)) a_nil))) (a_cons e_non (a_cons e_int (a_cons (e_var (i := 0) rfl (Or.inl lk__law_wrong_shapes_word)) (a_cons (e_var (i := 1) rfl (Or.inl lk__law_wrong_shapes_paper)) (a_cons (e_tup a_nil) a_nil))))))))))))))))))))
theorem sc_is_tuple_of : FnScope ["value", "low", "high"] ["value", "low", "high"] (defScope st_is_tuple_of) := ⟨rfl, rfl, rfl, by decide +kernel, rfl, by decide +kernel, by decide +kernel⟩
theorem nd_is_tuple_of : (["value", "low", "high"] : List Str).Nodup := sc_is_tuple_of.nd
theorem kd_is_tuple_of : (defScope st_is_tuple_of).kind = .function := rfl
theorem lk_is_tuple_of_high : (defScope st_is_tuple_of).names.lookup ("high" : Str) = some .local := by decide +kernel
theorem lk_is_tuple_of_isinstance : (defScope st_is_tuple_of).names.lookup ("isinstance" : Str) = some .globalImplicit := by decide +kernel
theorem lk_is_tuple_of_len : (defScope st_is_tuple_of).names.lookup ("len" : Str) = some .globalImplicit := by decide +kernel
theorem lk_is_tuple_of_low : (defScope st_is_tuple_of).names.lookup ("low" : Str) = some .local := by decide +kernel
theorem lk_is_tuple_of_tuple : (defScope st_is_tuple_of).names.lookup ("tuple" : Str) = some .globalImplicit := by decide +kernel
theorem lk_is_tuple_of_value : (defScope st_is_tuple_of).names.lookup ("value" : Str) = some .local := by decide +kernel
theorem cal_is_tuple_of (T : Txt K mg) : Cal0 P w K mg base 1 "is_tuple_of" 3 m_is_tuple_of := by
  refine Cal0.of (k := 0) (m := 0) (f := b_is_tuple_of) T.fn_is_tuple_of sc_is_tuple_of rfl rfl fun H0 => ?_
  exact (ss_one (s_ret (e_and (e_isi .tuple rfl T.no_isinstance T.no_tuple (e_var (i := 0) rfl (Or.inl lk_is_tuple_of_value)) lk_is_tuple_of_isinstance lk_is_tuple_of_tuple) (e_one (e_chain (fun _ A => o_le A) (fun _ A => o_le A) (e_var (i := 1) rfl (Or.inl lk_is_tuple_of_low)) (e_cb (fun _ A => c_len1 A) T.no_len rfl (a_cons (e_var (i := 0) rfl (Or.inl lk_is_tuple_of_value)) a_nil) lk_is_tuple_of_len) (e_var (i := 2) rfl (Or.inl lk_is_tuple_of_high)))))))
theorem sc_is_whole : FnScope ["value"] ["value"] (defScope st_is_whole) := ⟨rfl, rfl, rfl, by decide +kernel, rfl, by decide +kernel, by decide +kernel⟩
theorem nd_is_whole : (["value"] : List Str).Nodup := sc_is_whole.nd
theorem kd_is_whole : (defScope st_is_whole).kind = .function := rfl
theorem lk_is_whole_bool : (defScope st_is_whole).names.lookup ("bool" : Str) = some .globalImplicit := by decide +kernel
theorem lk_is_whole_int : (defScope st_is_whole).names.lookup ("int" : Str) = some .globalImplicit := by decide +kernel
theorem lk_is_whole_isinstance : (defScope st_is_whole).names.lookup ("isinstance" : Str) = some .globalImplicit := by decide +kernel
theorem lk_is_whole_value : (defScope st_is_whole).names.lookup ("value" : Str) = some .local := by decide +kernel
theorem cal_is_whole (T : Txt K mg) : Cal0 P w K mg base 1 "is_whole" 1 m_is_whole := by
  refine Cal0.of (k := 0) (m := 0) (f := b_is_whole) T.fn_is_whole sc_is_whole rfl rfl fun H0 => ?_
  exact (ss_one (s_ret (e_and (e_isi .int rfl T.no_isinstance T.no_int (e_var (i := 0) rfl (Or.inl lk_is_whole_value)) lk_is_whole_isinstance lk_is_whole_int) (e_one (e_not (e_isi .bool rfl T.no_isinstance T.no_bool (e_var (i := 0) rfl (Or.inl lk_is_whole_value)) lk_is_whole_isinstance lk_is_whole_bool))))))
theorem sc_is_whole_in : FnScope ["value", "low", "high"] ["value", "low", "high"] (defScope st_is_whole_in) := ⟨rfl, rfl, rfl, by decide +kernel, rfl, by decide +kernel, by decide +kernel⟩
theorem nd_is_whole_in : (["value", "low", "high"] : List Str).Nodup := sc_is_whole_in.nd
theorem kd_is_whole_in : (defScope st_is_whole_in).kind = .function := rfl
theorem lk_is_whole_in_high : (defScope st_is_whole_in).names.lookup ("high" : Str) = some .local := by decide +kernel
theorem lk_is_whole_in_is_whole : (defScope st_is_whole_in).names.lookup ("is_whole" : Str) = some .globalImplicit := by decide +kernel
theorem lk_is_whole_in_low : (defScope st_is_whole_in).names.lookup ("low" : Str) = some .local := by decide +kernel
theorem lk_is_whole_in_value : (defScope st_is_whole_in).names.lookup ("value" : Str) = some .local := by decide +kernel
theorem cal_is_whole_in (T : Txt K mg) : Cal0 P w K mg base 2 "is_whole_in" 3 m_is_whole_in := by
  refine Cal0.of (k := 1) (m := 0) (f := b_is_whole_in) T.fn_is_whole_in sc_is_whole_in rfl rfl fun H0 => ?_
  have h_is_whole : Cal ⟨P, w, K, mg, base, ["value", "low", "high"], defScope st_is_whole_in, fun _ => true, 1, H0, []⟩ "is_whole" 1 m_is_whole := (cal_is_whole T).cal (by decide)
  exact (ss_one (s_ret (e_and (e_call h_is_whole (a_cons (e_var (i := 0) rfl (Or.inl lk_is_whole_in_value)) a_nil) lk_is_whole_in_is_whole) (e_one (e_chain (fun _ A => o_le A) (fun _ A => o_le A) (e_var (i := 1) rfl (Or.inl lk_is_whole_in_low)) (e_var (i := 0) rfl (Or.inl lk_is_whole_in_value)) (e_var (i := 2) rfl (Or.inl lk_is_whole_in_high)))))))
theorem sc_is_name : FnScope ["value", "char"] ["value"] (defScope st_is_name) := ⟨rfl, rfl, rfl, by decide +kernel, rfl, by decide +kernel, by decide +kernel⟩
theorem nd_is_name : (["value", "char"] : List Str).Nodup := sc_is_name.nd
theorem kd_is_name : (defScope st_is_name).kind = .function := rfl
theorem lk_is_name_char : (defScope st_is_name).names.lookup ("char" : Str) = some .local := by decide +kernel
theorem lk_is_name_isinstance : (defScope st_is_name).names.lookup ("isinstance" : Str) = some .globalImplicit := by decide +kernel
theorem lk_is_name_len : (defScope st_is_name).names.lookup ("len" : Str) = some .globalImplicit := by decide +kernel
theorem lk_is_name_str : (defScope st_is_name).names.lookup ("str" : Str) = some .globalImplicit := by decide +kernel
theorem lk_is_name_value : (defScope st_is_name).names.lookup ("value" : Str) = some .local := by decide +kernel
theorem cal_is_name (T : Txt K mg) : Cal0 P w K mg base 1 "is_name" 1 m_is_name := by
  refine Cal0.of (k := 0) (m := 1) (f := b_is_name) T.fn_is_name sc_is_name rfl rfl fun H0 => ?_
  exact (ss_cons (s_if (t_not (t_isi .str rfl T.no_isinstance T.no_str (e_var (i := 0) rfl (Or.inl lk_is_name_value)) lk_is_name_isinstance lk_is_name_str)) (ss_one (s_ret e_bl)) ss_nil) (ss_cons (s_if (t_w (w_or (t_cmp (fun _ A => o_lt A) (e_cb (fun _ A => c_len1 A) T.no_len rfl (a_cons (e_var (i := 0) rfl (Or.inl lk_is_name_value)) a_nil) lk_is_name_len) e_int) (w_or1 (t_cmp (fun _ A => o_gt A) (e_cb (fun _ A => c_len1 A) T.no_len rfl (a_cons (e_var (i := 0) rfl (Or.inl lk_is_name_value)) a_nil) lk_is_name_len) e_int)))) (ss_one (s_ret e_bl)) ss_nil) (ss_cons (s_if (t_cmp (fun _ A => o_notin A) (e_ix (e_var (i := 0) rfl (Or.inl lk_is_name_value)) e_int) (e_glob ⟨T.con_LETTERS⟩)) (ss_one (s_ret e_bl)) ss_nil) (ss_cons (s_for (i_val (e_var (i := 0) rfl (Or.inl lk_is_name_value))) (g_nm ⟨nd_is_name, rfl, Or.inl lk_is_name_char, Or.inl rfl⟩) (ss_one (s_if (t_w (w_and (t_cmp (fun _ A => o_notin A) (e_var (i := 1) rfl (Or.inl lk_is_name_char)) (e_glob ⟨T.con_LETTERS⟩)) (w_and1 (t_cmp (fun _ A => o_notin A) (e_var (i := 1) rfl (Or.inl lk_is_name_char)) (e_glob ⟨T.con_DIGITS⟩))))) (ss_one (s_ret e_bl)) ss_nil))) (ss_one (s_ret e_bl))))))
theorem sc_is_names : FnScope ["value", "low", "high", "seen", "item"] ["value", "low", "high"] (defScope st_is_names) := ⟨rfl, rfl, rfl, by decide +kernel, rfl, by decide +kernel, by decide +kernel⟩
theorem nd_is_names : (["value", "low", "high", "seen", "item"] : List Str).Nodup := sc_is_names.nd
theorem kd_is_names : (defScope st_is_names).kind = .function := rfl
theorem lk_is_names_high : (defScope st_is_names).names.lookup ("high" : Str) = some .local := by decide +kernel
theorem lk_is_names_is_name : (defScope st_is_names).names.lookup ("is_name" : Str) = some .globalImplicit := by decide +kernel
theorem lk_is_names_is_tuple_of : (defScope st_is_names).names.lookup ("is_tuple_of" : Str) = some .globalImplicit := by decide +kernel
theorem lk_is_names_item : (defScope st_is_names).names.lookup ("item" : Str) = some .local := by decide +kernel
theorem lk_is_names_low : (defScope st_is_names).names.lookup ("low" : Str) = some .local := by decide +kernel
theorem lk_is_names_seen : (defScope st_is_names).names.lookup ("seen" : Str) = some .local := by decide +kernel
theorem lk_is_names_value : (defScope st_is_names).names.lookup ("value" : Str) = some .local := by decide +kernel
theorem cal_is_names (T : Txt K mg) : Cal0 P w K mg base 2 "is_names" 3 m_is_names := by
  refine Cal0.of (k := 1) (m := 2) (f := b_is_names) T.fn_is_names sc_is_names rfl rfl fun H0 => ?_
  have h_is_tuple_of : Cal ⟨P, w, K, mg, base, ["value", "low", "high", "seen", "item"], defScope st_is_names, fun _ => true, 1, H0, []⟩ "is_tuple_of" 3 m_is_tuple_of := (cal_is_tuple_of T).cal (by decide)
  have h_is_name : Cal ⟨P, w, K, mg, base, ["value", "low", "high", "seen", "item"], defScope st_is_names, fun _ => true, 1, H0, []⟩ "is_name" 1 m_is_name := (cal_is_name T).cal (by decide)
  exact (ss_cons (s_if (t_not (t_tru (e_call h_is_tuple_of (a_cons (e_var (i := 0) rfl (Or.inl lk_is_names_value)) (a_cons (e_var (i := 1) rfl (Or.inl lk_is_names_low)) (a_cons (e_var (i := 2) rfl (Or.inl lk_is_names_high)) a_nil))) lk_is_names_is_tuple_of))) (ss_one (s_ret e_bl)) ss_nil) (ss_cons (s_set ⟨nd_is_names, rfl, Or.inl lk_is_names_seen, Or.inl rfl⟩ e_dnewK) (ss_cons (s_for (i_val (e_var (i := 0) rfl (Or.inl lk_is_names_value))) (g_nm ⟨nd_is_names, rfl, Or.inl lk_is_names_item, Or.inl rfl⟩) (ss_cons (s_if (t_w (w_or (t_not (t_tru (e_call h_is_name (a_cons (e_var (i := 4) rfl (Or.inl lk_is_names_item)) a_nil) lk_is_names_is_name))) (w_or1 (t_cmp (fun _ A => o_in A) (e_var (i := 4) rfl (Or.inl lk_is_names_item)) (e_var (i := 3) rfl (Or.inl lk_is_names_seen)))))) (ss_one (s_ret e_bl)) ss_nil) (ss_one (s_asg e_bl (g_sub (i := 3) (e_var (i := 4) rfl (Or.inl lk_is_names_item)) rfl (Or.inl lk_is_names_seen)))))) (ss_one (s_ret e_bl)))))
theorem sc_is_task : FnScope ["value", "name", "days", "after"] ["value"] (defScope st_is_task) := ⟨rfl, rfl, rfl, by decide +kernel, rfl, by decide +kernel, by decide +kernel⟩
theorem nd_is_task : (["value", "name", "days", "after"] : List Str).Nodup := sc_is_task.nd
theorem kd_is_task : (defScope st_is_task).kind = .function := rfl
theorem lk_is_task_after : (defScope st_is_task).names.lookup ("after" : Str) = some .local := by decide +kernel
theorem lk_is_task_days : (defScope st_is_task).names.lookup ("days" : Str) = some .local := by decide +kernel
theorem lk_is_task_is_name : (defScope st_is_task).names.lookup ("is_name" : Str) = some .globalImplicit := by decide +kernel
theorem lk_is_task_is_names : (defScope st_is_task).names.lookup ("is_names" : Str) = some .globalImplicit := by decide +kernel
theorem lk_is_task_is_tuple_of : (defScope st_is_task).names.lookup ("is_tuple_of" : Str) = some .globalImplicit := by decide +kernel
theorem lk_is_task_is_whole_in : (defScope st_is_task).names.lookup ("is_whole_in" : Str) = some .globalImplicit := by decide +kernel
theorem lk_is_task_name : (defScope st_is_task).names.lookup ("name" : Str) = some .local := by decide +kernel
theorem lk_is_task_value : (defScope st_is_task).names.lookup ("value" : Str) = some .local := by decide +kernel
theorem cal_is_task (T : Txt K mg) : Cal0 P w K mg base 3 "is_task" 1 m_is_task := by
  refine Cal0.of (k := 2) (m := 3) (f := b_is_task) T.fn_is_task sc_is_task rfl rfl fun H0 => ?_
  have h_is_tuple_of : Cal ⟨P, w, K, mg, base, ["value", "name", "days", "after"], defScope st_is_task, fun _ => true, 2, H0, []⟩ "is_tuple_of" 3 m_is_tuple_of := (cal_is_tuple_of T).cal (by decide)
  have h_is_whole_in : Cal ⟨P, w, K, mg, base, ["value", "name", "days", "after"], defScope st_is_task, fun _ => true, 2, H0, []⟩ "is_whole_in" 3 m_is_whole_in := (cal_is_whole_in T).cal (by decide)
  have h_is_name : Cal ⟨P, w, K, mg, base, ["value", "name", "days", "after"], defScope st_is_task, fun _ => true, 2, H0, []⟩ "is_name" 1 m_is_name := (cal_is_name T).cal (by decide)
  have h_is_names : Cal ⟨P, w, K, mg, base, ["value", "name", "days", "after"], defScope st_is_task, fun _ => true, 2, H0, []⟩ "is_names" 3 m_is_names := (cal_is_names T).cal (by decide)
  exact (ss_cons (s_if (t_not (t_tru (e_call h_is_tuple_of (a_cons (e_var (i := 0) rfl (Or.inl lk_is_task_value)) (a_cons e_int (a_cons e_int a_nil))) lk_is_task_is_tuple_of))) (ss_one (s_ret e_bl)) ss_nil) (ss_cons (s_asg (e_var (i := 0) rfl (Or.inl lk_is_task_value)) (g_tp (gs_cons (g_nm ⟨nd_is_task, rfl, Or.inl lk_is_task_name, Or.inl rfl⟩) (gs_cons (g_nm ⟨nd_is_task, rfl, Or.inl lk_is_task_days, Or.inl rfl⟩) (gs_cons (g_nm ⟨nd_is_task, rfl, Or.inl lk_is_task_after, Or.inl rfl⟩) gs_nil))))) (ss_one (s_ret (e_and (e_call h_is_name (a_cons (e_var (i := 1) rfl (Or.inl lk_is_task_name)) a_nil) lk_is_task_is_name) (e_and (e_call h_is_whole_in (a_cons (e_var (i := 2) rfl (Or.inl lk_is_task_days)) (a_cons e_int (a_cons (e_glob ⟨T.con_MOST_DAYS⟩) a_nil))) lk_is_task_is_whole_in) (e_one (e_call h_is_names (a_cons (e_var (i := 3) rfl (Or.inl lk_is_task_after)) (a_cons e_int (a_cons (e_glob ⟨T.con_MOST_TASKS⟩) a_nil))) lk_is_task_is_names))))))))
theorem sc_check_tasks : FnScope ["subject", "names", "task", "tasks", "due", "name", "days", "after", "before"] ["subject"] (defScope st_check_tasks) := ⟨rfl, rfl, rfl, by decide +kernel, rfl, by decide +kernel, by decide +kernel⟩
theorem nd_check_tasks : (["subject", "names", "task", "tasks", "due", "name", "days", "after", "before"] : List Str).Nodup := sc_check_tasks.nd
theorem kd_check_tasks : (defScope st_check_tasks).kind = .function := rfl
theorem lk_check_tasks_BadTask : (defScope st_check_tasks).names.lookup ("BadTask" : Str) = some .globalImplicit := by decide +kernel
theorem lk_check_tasks_after : (defScope st_check_tasks).names.lookup ("after" : Str) = some .local := by decide +kernel
theorem lk_check_tasks_before : (defScope st_check_tasks).names.lookup ("before" : Str) = some .local := by decide +kernel
theorem lk_check_tasks_days : (defScope st_check_tasks).names.lookup ("days" : Str) = some .local := by decide +kernel
theorem lk_check_tasks_due : (defScope st_check_tasks).names.lookup ("due" : Str) = some .local := by decide +kernel
theorem lk_check_tasks_is_task : (defScope st_check_tasks).names.lookup ("is_task" : Str) = some .globalImplicit := by decide +kernel
theorem lk_check_tasks_is_tuple_of : (defScope st_check_tasks).names.lookup ("is_tuple_of" : Str) = some .globalImplicit := by decide +kernel
theorem lk_check_tasks_is_whole_in : (defScope st_check_tasks).names.lookup ("is_whole_in" : Str) = some .globalImplicit := by decide +kernel
theorem lk_check_tasks_name : (defScope st_check_tasks).names.lookup ("name" : Str) = some .local := by decide +kernel
theorem lk_check_tasks_names : (defScope st_check_tasks).names.lookup ("names" : Str) = some .local := by decide +kernel
theorem lk_check_tasks_subject : (defScope st_check_tasks).names.lookup ("subject" : Str) = some .local := by decide +kernel
theorem lk_check_tasks_task : (defScope st_check_tasks).names.lookup ("task" : Str) = some .local := by decide +kernel
theorem lk_check_tasks_tasks : (defScope st_check_tasks).names.lookup ("tasks" : Str) = some .local := by decide +kernel
theorem cal_check_tasks (T : Txt K mg) : Cal0 P w K mg base 4 "check_tasks" 1 m_check_tasks := by
  refine Cal0.of (k := 3) (m := 8) (f := b_check_tasks) T.fn_check_tasks sc_check_tasks rfl rfl fun H0 => ?_
  have h_is_tuple_of : Cal ⟨P, w, K, mg, base, ["subject", "names", "task", "tasks", "due", "name", "days", "after", "before"], defScope st_check_tasks, fun _ => true, 3, H0, []⟩ "is_tuple_of" 3 m_is_tuple_of := (cal_is_tuple_of T).cal (by decide)
  have h_is_whole_in : Cal ⟨P, w, K, mg, base, ["subject", "names", "task", "tasks", "due", "name", "days", "after", "before"], defScope st_check_tasks, fun _ => true, 3, H0, []⟩ "is_whole_in" 3 m_is_whole_in := (cal_is_whole_in T).cal (by decide)
  have h_is_task : Cal ⟨P, w, K, mg, base, ["subject", "names", "task", "tasks", "due", "name", "days", "after", "before"], defScope st_check_tasks, fun _ => true, 3, H0, []⟩ "is_task" 1 m_is_task := (cal_is_task T).cal (by decide)
  exact (ss_cons (s_if (t_not (t_tru (e_call h_is_tuple_of (a_cons (e_var (i := 0) rfl (Or.inl lk_check_tasks_subject)) (a_cons e_int (a_cons e_int a_nil))) lk_check_tasks_is_tuple_of))) (ss_one (s_raise ⟨T.exc_BadTask⟩ lk_check_tasks_BadTask)) ss_nil) (ss_cons (s_asg (e_var (i := 0) rfl (Or.inl lk_check_tasks_subject)) (g_tp (gs_cons (g_nm ⟨nd_check_tasks, rfl, Or.inl lk_check_tasks_tasks, Or.inl rfl⟩) (gs_cons (g_nm ⟨nd_check_tasks, rfl, Or.inl lk_check_tasks_due, Or.inl rfl⟩) gs_nil)))) (ss_cons (s_if (t_not (t_tru (e_call h_is_tuple_of (a_cons (e_var (i := 3) rfl (Or.inl lk_check_tasks_tasks)) (a_cons e_int (a_cons (e_glob ⟨T.con_MOST_TASKS⟩) a_nil))) lk_check_tasks_is_tuple_of))) (ss_one (s_raise ⟨T.exc_BadTask⟩ lk_check_tasks_BadTask)) ss_nil) (ss_cons (s_set ⟨nd_check_tasks, rfl, Or.inl lk_check_tasks_names, Or.inl rfl⟩ e_dnewK) (ss_cons (s_for (i_val (e_var (i := 3) rfl (Or.inl lk_check_tasks_tasks))) (g_nm ⟨nd_check_tasks, rfl, Or.inl lk_check_tasks_task, Or.inl rfl⟩) (ss_cons (s_if (t_not (t_tru (e_call h_is_task (a_cons (e_var (i := 2) rfl (Or.inl lk_check_tasks_task)) a_nil) lk_check_tasks_is_task))) (ss_one (s_raise ⟨T.exc_BadTask⟩ lk_check_tasks_BadTask)) ss_nil) (ss_cons (s_if (t_cmp (fun _ A => o_in A) (e_ix (e_var (i := 2) rfl (Or.inl lk_check_tasks_task)) e_int) (e_var (i := 1) rfl (Or.inl lk_check_tasks_names))) (ss_one (s_raise ⟨T.exc_BadTask⟩ lk_check_tasks_BadTask)) ss_nil) (ss_one (s_asg e_bl (g_sub (i := 1) (e_ix (e_var (i := 2) rfl (Or.inl lk_check_tasks_task)) e_int) rfl (Or.inl lk_check_tasks_names))))))) (ss_cons (s_for (i_val (e_var (i := 3) rfl (Or.inl lk_check_tasks_tasks))) (g_tp (gs_cons (g_nm ⟨nd_check_tasks, rfl, Or.inl lk_check_tasks_name, Or.inl rfl⟩) (gs_cons (g_nm ⟨nd_check_tasks, rfl, Or.inl lk_check_tasks_days, Or.inl rfl⟩) (gs_cons (g_nm ⟨nd_check_tasks, rfl, Or.inl lk_check_tasks_after, Or.inl rfl⟩) gs_nil)))) (ss_one (s_for (i_val (e_var (i := 7) rfl (Or.inl lk_check_tasks_after))) (g_nm ⟨nd_check_tasks, rfl, Or.inl lk_check_tasks_before, Or.inl rfl⟩) (ss_one (s_if (t_cmp (fun _ A => o_notin A) (e_var (i := 8) rfl (Or.inl lk_check_tasks_before)) (e_var (i := 1) rfl (Or.inl lk_check_tasks_names))) (ss_one (s_raise ⟨T.exc_BadTask⟩ lk_check_tasks_BadTask)) ss_nil))))) (ss_one (s_if (t_not (t_tru (e_call h_is_whole_in (a_cons (e_var (i := 4) rfl (Or.inl lk_check_tasks_due)) (a_cons e_int (a_cons (e_glob ⟨T.con_LAST_DUE⟩) a_nil))) lk_check_tasks_is_whole_in))) (ss_one (s_raise ⟨T.exc_BadTask⟩ lk_check_tasks_BadTask)) ss_nil))))))))
theorem sc_same_single : FnScope ["first", "second"] ["first", "second"] (defScope st_same_single) := ⟨rfl, rfl, rfl, by decide +kernel, rfl, by decide +kernel, by decide +kernel⟩
theorem nd_same_single : (["first", "second"] : List Str).Nodup := sc_same_single.nd
theorem kd_same_single : (defScope st_same_single).kind = .function := rfl
theorem lk_same_single_bool : (defScope st_same_single).names.lookup ("bool" : Str) = some .globalImplicit := by decide +kernel
theorem lk_same_single_first : (defScope st_same_single).names.lookup ("first" : Str) = some .local := by decide +kernel
theorem lk_same_single_int : (defScope st_same_single).names.lookup ("int" : Str) = some .globalImplicit := by decide +kernel
theorem lk_same_single_isinstance : (defScope st_same_single).names.lookup ("isinstance" : Str) = some .globalImplicit := by decide +kernel
theorem lk_same_single_second : (defScope st_same_single).names.lookup ("second" : Str) = some .local := by decide +kernel
theorem lk_same_single_str : (defScope st_same_single).names.lookup ("str" : Str) = some .globalImplicit := by decide +kernel
theorem cal_same_single (T : Txt K mg) : Cal0 P w K mg base 1 "same_single" 2 m_same_single := by
  refine Cal0.of (k := 0) (m := 0) (f := b_same_single) T.fn_same_single sc_same_single rfl rfl fun H0 => ?_
  exact (ss_cons (s_if (t_w (w_or (t_cmp (fun _ A => o_is A) (e_var (i := 0) rfl (Or.inl lk_same_single_first)) e_non) (w_or1 (t_cmp (fun _ A => o_is A) (e_var (i := 1) rfl (Or.inl lk_same_single_second)) e_non)))) (ss_one (s_ret (e_and (e_cmp (fun _ A => o_is A) (e_var (i := 0) rfl (Or.inl lk_same_single_first)) e_non) (e_one (e_cmp (fun _ A => o_is A) (e_var (i := 1) rfl (Or.inl lk_same_single_second)) e_non))))) ss_nil) (ss_cons (s_if (t_w (w_or (t_isi .bool rfl T.no_isinstance T.no_bool (e_var (i := 0) rfl (Or.inl lk_same_single_first)) lk_same_single_isinstance lk_same_single_bool) (w_or1 (t_isi .bool rfl T.no_isinstance T.no_bool (e_var (i := 1) rfl (Or.inl lk_same_single_second)) lk_same_single_isinstance lk_same_single_bool)))) (ss_one (s_ret (e_and (e_isi .bool rfl T.no_isinstance T.no_bool (e_var (i := 0) rfl (Or.inl lk_same_single_first)) lk_same_single_isinstance lk_same_single_bool) (e_and (e_isi .bool rfl T.no_isinstance T.no_bool (e_var (i := 1) rfl (Or.inl lk_same_single_second)) lk_same_single_isinstance lk_same_single_bool) (e_one (e_cmp (fun _ A => o_eq A) (e_var (i := 0) rfl (Or.inl lk_same_single_first)) (e_var (i := 1) rfl (Or.inl lk_same_single_second)))))))) ss_nil) (ss_cons (s_if (t_w (w_or (t_isi .int rfl T.no_isinstance T.no_int (e_var (i := 0) rfl (Or.inl lk_same_single_first)) lk_same_single_isinstance lk_same_single_int) (w_or1 (t_isi .int rfl T.no_isinstance T.no_int (e_var (i := 1) rfl (Or.inl lk_same_single_second)) lk_same_single_isinstance lk_same_single_int)))) (ss_one (s_ret (e_and (e_isi .int rfl T.no_isinstance T.no_int (e_var (i := 0) rfl (Or.inl lk_same_single_first)) lk_same_single_isinstance lk_same_single_int) (e_and (e_isi .int rfl T.no_isinstance T.no_int (e_var (i := 1) rfl (Or.inl lk_same_single_second)) lk_same_single_isinstance lk_same_single_int) (e_one (e_cmp (fun _ A => o_eq A) (e_var (i := 0) rfl (Or.inl lk_same_single_first)) (e_var (i := 1) rfl (Or.inl lk_same_single_second)))))))) ss_nil) (ss_one (s_ret (e_and (e_isi .str rfl T.no_isinstance T.no_str (e_var (i := 0) rfl (Or.inl lk_same_single_first)) lk_same_single_isinstance lk_same_single_str) (e_and (e_isi .str rfl T.no_isinstance T.no_str (e_var (i := 1) rfl (Or.inl lk_same_single_second)) lk_same_single_isinstance lk_same_single_str) (e_one (e_cmp (fun _ A => o_eq A) (e_var (i := 0) rfl (Or.inl lk_same_single_first)) (e_var (i := 1) rfl (Or.inl lk_same_single_second)))))))))))
theorem sc_same : FnScope ["first", "second", "waiting", "one", "other", "at"] ["first", "second"] (defScope st_same) := ⟨rfl, rfl, rfl, by decide +kernel, rfl, by decide +kernel, by decide +kernel⟩
theorem nd_same : (["first", "second", "waiting", "one", "other", "at"] : List Str).Nodup := sc_same.nd
theorem kd_same : (defScope st_same).kind = .function := rfl
theorem lk_same_at : (defScope st_same).names.lookup ("at" : Str) = some .local := by decide +kernel
theorem lk_same_first : (defScope st_same).names.lookup ("first" : Str) = some .local := by decide +kernel
theorem lk_same_isinstance : (defScope st_same).names.lookup ("isinstance" : Str) = some .globalImplicit := by decide +kernel
theorem lk_same_len : (defScope st_same).names.lookup ("len" : Str) = some .globalImplicit := by decide +kernel
theorem lk_same_one : (defScope st_same).names.lookup ("one" : Str) = some .local := by decide +kernel
theorem lk_same_other : (defScope st_same).names.lookup ("other" : Str) = some .local := by decide +kernel
theorem lk_same_range : (defScope st_same).names.lookup ("range" : Str) = some .globalImplicit := by decide +kernel
theorem lk_same_same_single : (defScope st_same).names.lookup ("same_single" : Str) = some .globalImplicit := by decide +kernel
theorem lk_same_second : (defScope st_same).names.lookup ("second" : Str) = some .local := by decide +kernel
theorem lk_same_tuple : (defScope st_same).names.lookup ("tuple" : Str) = some .globalImplicit := by decide +kernel
theorem lk_same_waiting : (defScope st_same).names.lookup ("waiting" : Str) = some .local := by decide +kernel
theorem cal_same (T : Txt K mg) : Cal0 P w K mg base 2 "same" 2 m_same := by
  refine Cal0.of (k := 1) (m := 4) (f := b_same) T.fn_same sc_same rfl rfl fun H0 => ?_
  have h_same_single : Cal ⟨P, w, K, mg, base, ["first", "second", "waiting", "one", "other", "at"], defScope st_same, fun _ => true, 1, H0, []⟩ "same_single" 2 m_same_single := (cal_same_single T).cal (by decide)
  exact (ss_cons (s_set ⟨nd_same, rfl, Or.inl lk_same_waiting, Or.inl rfl⟩ (e_lst (a_cons (e_tup (a_cons (e_var (i := 0) rfl (Or.inl lk_same_first)) (a_cons (e_var (i := 1) rfl (Or.inl lk_same_second)) a_nil))) a_nil))) (ss_cons (s_wh 1000000000 (t_tru (e_var (i := 2) rfl (Or.inl lk_same_waiting))) (ss_cons (s_asg (e_ml0 (i := 2) PySem.F.slot_list_pop PySem.F.type_list_pop (fun _ A => m_pop A) rfl (Or.inl lk_same_waiting)) (g_tp (gs_cons (g_nm ⟨nd_same, rfl, Or.inl lk_same_one, Or.inl rfl⟩) (gs_cons (g_nm ⟨nd_same, rfl, Or.inl lk_same_other, Or.inl rfl⟩) gs_nil)))) (ss_one (s_if (t_w (w_or (t_isi .tuple rfl T.no_isinstance T.no_tuple (e_var (i := 3) rfl (Or.inl lk_same_one)) lk_same_isinstance lk_same_tuple) (w_or1 (t_isi .tuple rfl T.no_isinstance T.no_tuple (e_var (i := 4) rfl (Or.inl lk_same_other)) lk_same_isinstance lk_same_tuple)))) (ss_cons (s_if (t_w (w_or (t_not (t_isi .tuple rfl T.no_isinstance T.no_tuple (e_var (i := 3) rfl (Or.inl lk_same_one)) lk_same_isinstance lk_same_tuple)) (w_or1 (t_not (t_isi .tuple rfl T.no_isinstance T.no_tuple (e_var (i := 4) rfl (Or.inl lk_same_other)) lk_same_isinstance lk_same_tuple))))) (ss_one (s_ret e_bl)) ss_nil) (ss_cons (s_if (t_cmp (fun _ A => o_ne A) (e_cb (fun _ A => c_len1 A) T.no_len rfl (a_cons (e_var (i := 3) rfl (Or.inl lk_same_one)) a_nil) lk_same_len) (e_cb (fun _ A => c_len1 A) T.no_len rfl (a_cons (e_var (i := 4) rfl (Or.inl lk_same_other)) a_nil) lk_same_len)) (ss_one (s_ret e_bl)) ss_nil) (ss_one (s_for (i_rg1 T.no_range (a_cons (e_cb (fun _ A => c_len1 A) T.no_len rfl (a_cons (e_var (i := 3) rfl (Or.inl lk_same_one)) a_nil) lk_same_len) a_nil) lk_same_range) (g_nm ⟨nd_same, rfl, Or.inl lk_same_at, Or.inl rfl⟩) (ss_one (s_ex (e_ml (i := 2) PySem.F.slot_list_append PySem.F.type_list_append (fun _ A => m_append A) (a_cons (e_tup (a_cons (e_ix (e_var (i := 3) rfl (Or.inl lk_same_one)) (e_var (i := 5) rfl (Or.inl lk_same_at))) (a_cons (e_ix (e_var (i := 4) rfl (Or.inl lk_same_other)) (e_var (i := 5) rfl (Or.inl lk_same_at))) a_nil))) a_nil) rfl (Or.inl lk_same_waiting)))))))) (ss_one (s_if (t_not (t_tru (e_call h_same_single (a_cons (e_var (i := 3) rfl (Or.inl lk_same_one)) (a_cons (e_var (i := 4) rfl (Or.inl lk_same_other)) a_nil)) lk_same_same_single))) (ss_one (s_ret e_bl)) ss_nil)))))) (ss_one (s_ret e_bl))))
theorem sc_is_hindrance : FnScope ["subject", "paper", "rows", "name", "at", "tasks", "due", "word", "names", "task"] ["subject", "paper"] (defScope st_is_hindrance) := ⟨rfl, rfl, rfl, by decide +kernel, rfl, by decide +kernel, by decide +kernel⟩
theorem nd_is_hindrance : (["subject", "paper", "rows", "name", "at", "tasks", "due", "word", "names", "task"] : List Str).Nodup := sc_is_hindrance.nd
theorem kd_is_hindrance : (defScope st_is_hindrance).kind = .function := rfl
theorem lk_is_hindrance_at : (defScope st_is_hindrance).names.lookup ("at" : Str) = some .local := by decide +kernel
theorem lk_is_hindrance_due : (defScope st_is_hindrance).names.lookup ("due" : Str) = some .local := by decide +kernel
theorem lk_is_hindrance_is_names : (defScope st_is_hindrance).names.lookup ("is_names" : Str) = some .globalImplicit := by decide +kernel
theorem lk_is_hindrance_is_tuple_of : (defScope st_is_hindrance).names.lookup ("is_tuple_of" : Str) = some .globalImplicit := by decide +kernel
theorem lk_is_hindrance_len : (defScope st_is_hindrance).names.lookup ("len" : Str) = some .globalImplicit := by decide +kernel
theorem lk_is_hindrance_name : (defScope st_is_hindrance).names.lookup ("name" : Str) = some .local := by decide +kernel
theorem lk_is_hindrance_names : (defScope st_is_hindrance).names.lookup ("names" : Str) = some .local := by decide +kernel
theorem lk_is_hindrance_paper : (defScope st_is_hindrance).names.lookup ("paper" : Str) = some .local := by decide +kernel
theorem lk_is_hindrance_range : (defScope st_is_hindrance).names.lookup ("range" : Str) = some .globalImplicit := by decide +kernel
theorem lk_is_hindrance_rows : (defScope st_is_hindrance).names.lookup ("rows" : Str) = some .cell := by decide +kernel
theorem lk_is_hindrance_same : (defScope st_is_hindrance).names.lookup ("same" : Str) = some .globalImplicit := by decide +kernel
theorem lk_is_hindrance_subject : (defScope st_is_hindrance).names.lookup ("subject" : Str) = some .local := by decide +kernel
theorem lk_is_hindrance_sum : (defScope st_is_hindrance).names.lookup ("sum" : Str) = some .globalImplicit := by decide +kernel
theorem lk_is_hindrance_tasks : (defScope st_is_hindrance).names.lookup ("tasks" : Str) = some .local := by decide +kernel
theorem lk_is_hindrance_word : (defScope st_is_hindrance).names.lookup ("word" : Str) = some .local := by decide +kernel
theorem cal_is_hindrance (T : Txt K mg) : Cal0 P w K mg base 3 "is_hindrance" 2 m_is_hindrance := by
  refine Cal0.of (k := 2) (m := 8) (f := b_is_hindrance) T.fn_is_hindrance sc_is_hindrance rfl rfl fun H0 => ?_
  have h_is_tuple_of : Cal ⟨P, w, K, mg, base, ["subject", "paper", "rows", "name", "at", "tasks", "due", "word", "names", "task"], defScope st_is_hindrance, fun _ => true, 2, H0, []⟩ "is_tuple_of" 3 m_is_tuple_of := (cal_is_tuple_of T).cal (by decide)
  have h_is_names : Cal ⟨P, w, K, mg, base, ["subject", "paper", "rows", "name", "at", "tasks", "due", "word", "names", "task"], defScope st_is_hindrance, fun _ => true, 2, H0, []⟩ "is_names" 3 m_is_names := (cal_is_names T).cal (by decide)
  have h_same : Cal ⟨P, w, K, mg, base, ["subject", "paper", "rows", "name", "at", "tasks", "due", "word", "names", "task"], defScope st_is_hindrance, fun _ => true, 2, H0, []⟩ "same" 2 m_same := (cal_same T).cal (by decide)
  exact (ss_cons (s_asg (e_var (i := 0) rfl (Or.inl lk_is_hindrance_subject)) (g_tp (gs_cons (g_nm ⟨nd_is_hindrance, rfl, Or.inl lk_is_hindrance_tasks, Or.inl rfl⟩) (gs_cons (g_nm ⟨nd_is_hindrance, rfl, Or.inl lk_is_hindrance_due, Or.inl rfl⟩) gs_nil)))) (ss_cons (s_if (t_not (t_tru (e_call h_is_tuple_of (a_cons (e_var (i := 1) rfl (Or.inl lk_is_hindrance_paper)) (a_cons e_int (a_cons e_int a_nil))) lk_is_hindrance_is_tuple_of))) (ss_one (s_ret e_bl)) ss_nil) (ss_cons (s_asg (e_var (i := 1) rfl (Or.inl lk_is_hindrance_paper)) (g_tp (gs_cons (g_nm ⟨nd_is_hindrance, rfl, Or.inl lk_is_hindrance_word, Or.inl rfl⟩) (gs_cons (g_nm ⟨nd_is_hindrance, rfl, Or.inl lk_is_hindrance_names, Or.inl rfl⟩) gs_nil)))) (ss_cons (s_if (t_w (w_or (t_not (t_w (w_or (t_tru (e_call h_same (a_cons (e_var (i := 7) rfl (Or.inl lk_is_hindrance_word)) (a_cons e_str a_nil)) lk_is_hindrance_same)) (w_or1 (t_tru (e_call h_same (a_cons (e_var (i := 7) rfl (Or.inl lk_is_hindrance_word)) (a_cons e_str a_nil)) lk_is_hindrance_same)))))) (w_or1 (t_not (t_tru (e_call h_is_names (a_cons (e_var (i := 8) rfl (Or.inl lk_is_hindrance_names)) (a_cons e_int (a_cons (e_glob ⟨T.con_MOST_TASKS⟩) a_nil))) lk_is_hindrance_is_names)))))) (ss_one (s_ret e_bl)) ss_nil) (ss_cons (s_set ⟨nd_is_hindrance, rfl, Or.inr lk_is_hindrance_rows, Or.inl rfl⟩ (e_dc (own := [("task", 9)]) nd_is_hindrance (by dsimp only; decide +kernel) rfl rfl (i_val (e_var (i := 5) rfl (Or.inl lk_is_hindrance_tasks))) (fun _ => (g_nm ⟨nd_is_hindrance, rfl, (by first | exact Or.inl rfl | exact Or.inr rfl), (by first | exact Or.inl rfl | exact Or.inr rfl)⟩)) (fun _ => ts_no) (fun _ => (e_ix (e_var (i := 9) rfl ) e_int)) (fun _ => (e_var (i := 9) rfl ))) (fun _ h => swD_cell (by rw [h]; exact lk_is_hindrance_rows))) (ss_cons (s_for (i_val (e_var (i := 8) rfl (Or.inl lk_is_hindrance_names))) (g_nm ⟨nd_is_hindrance, rfl, Or.inl lk_is_hindrance_name, Or.inl rfl⟩) (ss_one (s_if (t_cmp (fun _ A => o_notin A) (e_var (i := 3) rfl (Or.inl lk_is_hindrance_name)) (e_var (i := 2) rfl (Or.inr (Or.inl lk_is_hindrance_rows)))) (ss_one (s_ret e_bl)) ss_nil))) (ss_cons (s_for (i_rg2 T.no_range (a_cons e_int (a_cons (e_cb (fun _ A => c_len1 A) T.no_len rfl (a_cons (e_var (i := 8) rfl (Or.inl lk_is_hindrance_names)) a_nil) lk_is_hindrance_len) a_nil)) lk_is_hindrance_range) (g_nm ⟨nd_is_hindrance, rfl, Or.inl lk_is_hindrance_at, Or.inl rfl⟩) (ss_one (s_if (t_cmp (fun _ A => o_notin A) (e_ix (e_var (i := 8) rfl (Or.inl lk_is_hindrance_names)) (e_bin (fun _ A => o_sub A) (e_var (i := 4) rfl (Or.inl lk_is_hindrance_at)) e_int)) (e_ix (e_ix (e_var (i := 2) rfl (Or.inr (Or.inl lk_is_hindrance_rows))) (e_ix (e_var (i := 8) rfl (Or.inl lk_is_hindrance_names)) (e_var (i := 4) rfl (Or.inl lk_is_hindrance_at)))) e_int)) (ss_one (s_ret e_bl)) ss_nil))) (ss_cons (s_if (t_cmp (fun _ A => o_eq A) (e_var (i := 7) rfl (Or.inl lk_is_hindrance_word)) e_str) (ss_one (s_ret (e_cmp (fun _ A => o_in A) (e_ix (e_var (i := 8) rfl (Or.inl lk_is_hindrance_names)) (e_un (fun _ A => o_neg A) e_int)) (e_ix (e_ix (e_var (i := 2) rfl (Or.inr (Or.inl lk_is_hindrance_rows))) (e_ix (e_var (i := 8) rfl (Or.inl lk_is_hindrance_names)) e_int)) e_int)))) ss_nil) (ss_one (s_ret (e_cmp (fun _ A => o_gt A) (e_cb (fun _ A => c_sum A) T.no_sum rfl (a_cons (e_lc (own := [("name", 3)]) nd_is_hindrance (by dsimp only; decide +kernel) rfl rfl (i_val (e_var (i := 8) rfl (Or.inl lk_is_hindrance_names))) (fun _ => (g_nm ⟨nd_is_hindrance, rfl, (by first | exact Or.inl rfl | exact Or.inr rfl), (by first | exact Or.inl rfl | exact Or.inr rfl)⟩)) (fun _ => ts_no) (fun _ => (e_ix (e_ix (e_var (i := 2) rfl ) (e_var (i := 3) rfl )) e_int))) a_nil) lk_is_hindrance_sum) (e_var (i := 6) rfl (Or.inl lk_is_hindrance_due)))))))))))))
theorem sc_is_answer : FnScope ["value"] ["value"] (defScope st_is_answer) := ⟨rfl, rfl, rfl, by decide +kernel, rfl, by decide +kernel, by decide +kernel⟩
theorem nd_is_answer : (["value"] : List Str).Nodup := sc_is_answer.nd
theorem kd_is_answer : (defScope st_is_answer).kind = .function := rfl
theorem lk_is_answer_is_tuple_of : (defScope st_is_answer).names.lookup ("is_tuple_of" : Str) = some .globalImplicit := by decide +kernel
theorem lk_is_answer_isinstance : (defScope st_is_answer).names.lookup ("isinstance" : Str) = some .globalImplicit := by decide +kernel
theorem lk_is_answer_str : (defScope st_is_answer).names.lookup ("str" : Str) = some .globalImplicit := by decide +kernel
theorem lk_is_answer_value : (defScope st_is_answer).names.lookup ("value" : Str) = some .local := by decide +kernel
theorem cal_is_answer (T : Txt K mg) : Cal0 P w K mg base 2 "is_answer" 1 m_is_answer := by
  refine Cal0.of (k := 1) (m := 0) (f := b_is_answer) T.fn_is_answer sc_is_answer rfl rfl fun H0 => ?_
  have h_is_tuple_of : Cal ⟨P, w, K, mg, base, ["value"], defScope st_is_answer, fun _ => true, 1, H0, []⟩ "is_tuple_of" 3 m_is_tuple_of := (cal_is_tuple_of T).cal (by decide)
  exact (ss_cons (s_if (t_w (w_or (t_not (t_tru (e_call h_is_tuple_of (a_cons (e_var (i := 0) rfl (Or.inl lk_is_answer_value)) (a_cons e_int (a_cons e_int a_nil))) lk_is_answer_is_tuple_of))) (w_or1 (t_not (t_isi .str rfl T.no_isinstance T.no_str (e_ix (e_var (i := 0) rfl (Or.inl lk_is_answer_value)) e_int) lk_is_answer_isinstance lk_is_answer_str))))) (ss_one (s_ret e_bl)) ss_nil) (ss_one (s_ret (e_or (e_cmp (fun _ A => o_eq A) (e_ix (e_var (i := 0) rfl (Or.inl lk_is_answer_value)) e_int) e_str) (e_one (e_cmp (fun _ A => o_eq A) (e_ix (e_var (i := 0) rfl (Or.inl lk_is_answer_value)) e_int) e_str))))))
theorem sc_is_timely : FnScope ["subject", "paper", "finish", "tasks", "due", "task", "start", "before"] ["subject", "paper"] (defScope st_is_timely) := ⟨rfl, rfl, rfl, by decide +kernel, rfl, by decide +kernel, by decide +kernel⟩
theorem nd_is_timely : (["subject", "paper", "finish", "tasks", "due", "task", "start", "before"] : List Str).Nodup := sc_is_timely.nd
theorem kd_is_timely : (defScope st_is_timely).kind = .function := rfl
theorem lk_is_timely_before : (defScope st_is_timely).names.lookup ("before" : Str) = some .local := by decide +kernel
theorem lk_is_timely_due : (defScope st_is_timely).names.lookup ("due" : Str) = some .local := by decide +kernel
theorem lk_is_timely_finish : (defScope st_is_timely).names.lookup ("finish" : Str) = some .local := by decide +kernel
theorem lk_is_timely_is_tuple_of : (defScope st_is_timely).names.lookup ("is_tuple_of" : Str) = some .globalImplicit := by decide +kernel
theorem lk_is_timely_is_whole : (defScope st_is_timely).names.lookup ("is_whole" : Str) = some .globalImplicit := by decide +kernel
theorem lk_is_timely_len : (defScope st_is_timely).names.lookup ("len" : Str) = some .globalImplicit := by decide +kernel
theorem lk_is_timely_paper : (defScope st_is_timely).names.lookup ("paper" : Str) = some .local := by decide +kernel
theorem lk_is_timely_start : (defScope st_is_timely).names.lookup ("start" : Str) = some .local := by decide +kernel
theorem lk_is_timely_subject : (defScope st_is_timely).names.lookup ("subject" : Str) = some .local := by decide +kernel
theorem lk_is_timely_task : (defScope st_is_timely).names.lookup ("task" : Str) = some .local := by decide +kernel
theorem lk_is_timely_tasks : (defScope st_is_timely).names.lookup ("tasks" : Str) = some .local := by decide +kernel
theorem lk_is_timely_zip : (defScope st_is_timely).names.lookup ("zip" : Str) = some .globalImplicit := by decide +kernel
theorem cal_is_timely (T : Txt K mg) : Cal0 P w K mg base 2 "is_timely" 2 m_is_timely := by
  refine Cal0.of (k := 1) (m := 6) (f := b_is_timely) T.fn_is_timely sc_is_timely rfl rfl fun H0 => ?_
  have h_is_tuple_of : Cal ⟨P, w, K, mg, base, ["subject", "paper", "finish", "tasks", "due", "task", "start", "before"], defScope st_is_timely, fun _ => true, 1, H0, []⟩ "is_tuple_of" 3 m_is_tuple_of := (cal_is_tuple_of T).cal (by decide)
  have h_is_whole : Cal ⟨P, w, K, mg, base, ["subject", "paper", "finish", "tasks", "due", "task", "start", "before"], defScope st_is_timely, fun _ => true, 1, H0, []⟩ "is_whole" 1 m_is_whole := (cal_is_whole T).cal (by decide)
  exact (ss_cons (s_asg (e_var (i := 0) rfl (Or.inl lk_is_timely_subject)) (g_tp (gs_cons (g_nm ⟨nd_is_timely, rfl, Or.inl lk_is_timely_tasks, Or.inl rfl⟩) (gs_cons (g_nm ⟨nd_is_timely, rfl, Or.inl lk_is_timely_due, Or.inl rfl⟩) gs_nil)))) (ss_cons (s_if (t_not (t_tru (e_call h_is_tuple_of (a_cons (e_var (i := 1) rfl (Or.inl lk_is_timely_paper)) (a_cons (e_cb (fun _ A => c_len1 A) T.no_len rfl (a_cons (e_var (i := 3) rfl (Or.inl lk_is_timely_tasks)) a_nil) lk_is_timely_len) (a_cons (e_cb (fun _ A => c_len1 A) T.no_len rfl (a_cons (e_var (i := 3) rfl (Or.inl lk_is_timely_tasks)) a_nil) lk_is_timely_len) a_nil))) lk_is_timely_is_tuple_of))) (ss_one (s_ret e_bl)) ss_nil) (ss_cons (s_set ⟨nd_is_timely, rfl, Or.inl lk_is_timely_finish, Or.inl rfl⟩ e_dnewK) (ss_cons (s_for (i_zp T.no_zip (a_cons (e_var (i := 3) rfl (Or.inl lk_is_timely_tasks)) (a_cons (e_var (i := 1) rfl (Or.inl lk_is_timely_paper)) a_nil)) lk_is_timely_zip) (g_tp (gs_cons (g_nm ⟨nd_is_timely, rfl, Or.inl lk_is_timely_task, Or.inl rfl⟩) (gs_cons (g_nm ⟨nd_is_timely, rfl, Or.inl lk_is_timely_start, Or.inl rfl⟩) gs_nil))) (ss_cons (s_if (t_w (w_or (t_not (t_tru (e_call h_is_whole (a_cons (e_var (i := 6) rfl (Or.inl lk_is_timely_start)) a_nil) lk_is_timely_is_whole))) (w_or (t_cmp (fun _ A => o_lt A) (e_var (i := 6) rfl (Or.inl lk_is_timely_start)) e_int) (w_or1 (t_cmp (fun _ A => o_gt A) (e_bin (fun _ A => o_add A) (e_var (i := 6) rfl (Or.inl lk_is_timely_start)) (e_ix (e_var (i := 5) rfl (Or.inl lk_is_timely_task)) e_int)) (e_var (i := 4) rfl (Or.inl lk_is_timely_due))))))) (ss_one (s_ret e_bl)) ss_nil) (ss_one (s_asg (e_bin (fun _ A => o_add A) (e_var (i := 6) rfl (Or.inl lk_is_timely_start)) (e_ix (e_var (i := 5) rfl (Or.inl lk_is_timely_task)) e_int)) (g_sub (i := 2) (e_ix (e_var (i := 5) rfl (Or.inl lk_is_timely_task)) e_int) rfl (Or.inl lk_is_timely_finish)))))) (ss_cons (s_for (i_zp T.no_zip (a_cons (e_var (i := 3) rfl (Or.inl lk_is_timely_tasks)) (a_cons (e_var (i := 1) rfl (Or.inl lk_is_timely_paper)) a_nil)) lk_is_timely_zip) (g_tp (gs_cons (g_nm ⟨nd_is_timely, rfl, Or.inl lk_is_timely_task, Or.inl rfl⟩) (gs_cons (g_nm ⟨nd_is_timely, rfl, Or.inl lk_is_timely_start, Or.inl rfl⟩) gs_nil))) (ss_one (s_for (i_val (e_ix (e_var (i := 5) rfl (Or.inl lk_is_timely_task)) e_int)) (g_nm ⟨nd_is_timely, rfl, Or.inl lk_is_timely_before, Or.inl rfl⟩) (ss_one (s_if (t_cmp (fun _ A => o_lt A) (e_var (i := 6) rfl (Or.inl lk_is_timely_start)) (e_ix (e_var (i := 2) rfl (Or.inl lk_is_timely_finish)) (e_var (i := 7) rfl (Or.inl lk_is_timely_before)))) (ss_one (s_ret e_bl)) ss_nil))))) (ss_one (s_ret e_bl)))))))
theorem sc_upholds_tasks : FnScope ["subject", "answer", "word", "paper"] ["subject", "answer"] (defScope st_upholds_tasks) := ⟨rfl, rfl, rfl, by decide +kernel, rfl, by decide +kernel, by decide +kernel⟩
theorem nd_upholds_tasks : (["subject", "answer", "word", "paper"] : List Str).Nodup := sc_upholds_tasks.nd
theorem kd_upholds_tasks : (defScope st_upholds_tasks).kind = .function := rfl
theorem lk_upholds_tasks_answer : (defScope st_upholds_tasks).names.lookup ("answer" : Str) = some .local := by decide +kernel
theorem lk_upholds_tasks_check_tasks : (defScope st_upholds_tasks).names.lookup ("check_tasks" : Str) = some .globalImplicit := by decide +kernel
theorem lk_upholds_tasks_is_answer : (defScope st_upholds_tasks).names.lookup ("is_answer" : Str) = some .globalImplicit := by decide +kernel
theorem lk_upholds_tasks_is_hindrance : (defScope st_upholds_tasks).names.lookup ("is_hindrance" : Str) = some .globalImplicit := by decide +kernel
theorem lk_upholds_tasks_is_timely : (defScope st_upholds_tasks).names.lookup ("is_timely" : Str) = some .globalImplicit := by decide +kernel
theorem lk_upholds_tasks_paper : (defScope st_upholds_tasks).names.lookup ("paper" : Str) = some .local := by decide +kernel
theorem lk_upholds_tasks_subject : (defScope st_upholds_tasks).names.lookup ("subject" : Str) = some .local := by decide +kernel
theorem lk_upholds_tasks_word : (defScope st_upholds_tasks).names.lookup ("word" : Str) = some .local := by decide +kernel
theorem cal_upholds_tasks (T : Txt K mg) : Cal0 P w K mg base 5 "upholds_tasks" 2 m_upholds_tasks := by
  refine Cal0.of (k := 4) (m := 2) (f := b_upholds_tasks) T.fn_upholds_tasks sc_upholds_tasks rfl rfl fun H0 => ?_
  have h_check_tasks : Cal ⟨P, w, K, mg, base, ["subject", "answer", "word", "paper"], defScope st_upholds_tasks, fun _ => true, 4, H0, []⟩ "check_tasks" 1 m_check_tasks := (cal_check_tasks T).cal (by decide)
  have h_is_hindrance : Cal ⟨P, w, K, mg, base, ["subject", "answer", "word", "paper"], defScope st_upholds_tasks, fun _ => true, 4, H0, []⟩ "is_hindrance" 2 m_is_hindrance := (cal_is_hindrance T).cal (by decide)
  have h_is_answer : Cal ⟨P, w, K, mg, base, ["subject", "answer", "word", "paper"], defScope st_upholds_tasks, fun _ => true, 4, H0, []⟩ "is_answer" 1 m_is_answer := (cal_is_answer T).cal (by decide)
  have h_is_timely : Cal ⟨P, w, K, mg, base, ["subject", "answer", "word", "paper"], defScope st_upholds_tasks, fun _ => true, 4, H0, []⟩ "is_timely" 2 m_is_timely := (cal_is_timely T).cal (by decide)
  exact (ss_cons (s_ex (e_call h_check_tasks (a_cons (e_var (i := 0) rfl (Or.inl lk_upholds_tasks_subject)) a_nil) lk_upholds_tasks_check_tasks)) (ss_cons (s_if (t_not (t_tru (e_call h_is_answer (a_cons (e_var (i := 1) rfl (Or.inl lk_upholds_tasks_answer)) a_nil) lk_upholds_tasks_is_answer))) (ss_one (s_ret e_bl)) ss_nil) (ss_cons (s_asg (e_var (i := 1) rfl (Or.inl lk_upholds_tasks_answer)) (g_tp (gs_cons (g_nm ⟨nd_upholds_tasks, rfl, Or.inl lk_upholds_tasks_word, Or.inl rfl⟩) (gs_cons (g_nm ⟨nd_upholds_tasks, rfl, Or.inl lk_upholds_tasks_paper, Or.inl rfl⟩) gs_nil)))) (ss_cons (s_if (t_cmp (fun _ A => o_eq A) (e_var (i := 2) rfl (Or.inl lk_upholds_tasks_word)) e_str) (ss_one (s_ret (e_call h_is_timely (a_cons (e_var (i := 0) rfl (Or.inl lk_upholds_tasks_subject)) (a_cons (e_var (i := 3) rfl (Or.inl lk_upholds_tasks_paper)) a_nil)) lk_upholds_tasks_is_timely))) ss_nil) (ss_one (s_ret (e_call h_is_hindrance (a_cons (e_var (i := 0) rfl (Or.inl lk_upholds_tasks_subject)) (a_cons (e_var (i := 3) rfl (Or.inl lk_upholds_tasks_paper)) a_nil)) lk_upholds_tasks_is_hindrance)))))))
theorem sc__law_other_kinds : FnScope ["subject", "starts", "names", "wrong", "word", "at", "answer", "paper", "item"] ["subject", "starts", "names"] (defScope st__law_other_kinds) := ⟨rfl, rfl, rfl, by decide +kernel, rfl, by decide +kernel, by decide +kernel⟩
theorem nd__law_other_kinds : (["subject", "starts", "names", "wrong", "word", "at", "answer", "paper", "item"] : List Str).Nodup := sc__law_other_kinds.nd
theorem kd__law_other_kinds : (defScope st__law_other_kinds).kind = .function := rfl
theorem lk__law_other_kinds__law_wrong_shapes : (defScope st__law_other_kinds).names.lookup ("_law_wrong_shapes" : Str) = some .globalImplicit := by decide +kernel
theorem lk__law_other_kinds_answer : (defScope st__law_other_kinds).names.lookup ("answer" : Str) = some .local := by decide +kernel
theorem lk__law_other_kinds_at : (defScope st__law_other_kinds).names.lookup ("at" : Str) = some .local := by decide +kernel
theorem lk__law_other_kinds_item : (defScope st__law_other_kinds).names.lookup ("item" : Str) = some .local := by decide +kernel
theorem lk__law_other_kinds_len : (defScope st__law_other_kinds).names.lookup ("len" : Str) = some .globalImplicit := by decide +kernel
theorem lk__law_other_kinds_list : (defScope st__law_other_kinds).names.lookup ("list" : Str) = some .globalImplicit := by decide +kernel
theorem lk__law_other_kinds_names : (defScope st__law_other_kinds).names.lookup ("names" : Str) = some .local := by decide +kernel
theorem lk__law_other_kinds_paper : (defScope st__law_other_kinds).names.lookup ("paper" : Str) = some .local := by decide +kernel
theorem lk__law_other_kinds_range : (defScope st__law_other_kinds).names.lookup ("range" : Str) = some .globalImplicit := by decide +kernel
theorem lk__law_other_kinds_starts : (defScope st__law_other_kinds).names.lookup ("starts" : Str) = some .local := by decide +kernel
theorem lk__law_other_kinds_str : (defScope st__law_other_kinds).names.lookup ("str" : Str) = some .globalImplicit := by decide +kernel
theorem lk__law_other_kinds_subject : (defScope st__law_other_kinds).names.lookup ("subject" : Str) = some .local := by decide +kernel
theorem lk__law_other_kinds_upholds_tasks : (defScope st__law_other_kinds).names.lookup ("upholds_tasks" : Str) = some .globalImplicit := by decide +kernel
theorem lk__law_other_kinds_word : (defScope st__law_other_kinds).names.lookup ("word" : Str) = some .local := by decide +kernel
theorem lk__law_other_kinds_wrong : (defScope st__law_other_kinds).names.lookup ("wrong" : Str) = some .local := by decide +kernel
theorem cal__law_other_kinds (T : Txt K mg) : Cal0 P w K mg base 6 "_law_other_kinds" 3 m__law_other_kinds := by
  refine Cal0.of (k := 5) (m := 6) (f := b__law_other_kinds) T.fn__law_other_kinds sc__law_other_kinds rfl rfl fun H0 => ?_
  have h__law_wrong_shapes : Cal ⟨P, w, K, mg, base, ["subject", "starts", "names", "wrong", "word", "at", "answer", "paper", "item"], defScope st__law_other_kinds, fun _ => true, 5, H0, []⟩ "_law_wrong_shapes" 2 m__law_wrong_shapes := (cal__law_wrong_shapes T).cal (by decide)
  have h_upholds_tasks : Cal ⟨P, w, K, mg, base, ["subject", "starts", "names", "wrong", "word", "at", "answer", "paper", "item"], defScope st__law_other_kinds, fun _ => true, 5, H0, []⟩ "upholds_tasks" 2 m_upholds_tasks := (cal_upholds_tasks T).cal (by decide)
  exact (ss_cons (s_set ⟨nd__law_other_kinds, rfl, Or.inl lk__law_other_kinds_wrong, Or.inl rfl⟩ (e_lst (a_cons (e_tup (a_cons e_str (a_cons (e_cty (fun _ A => c_list A) T.no_list rfl (a_cons (e_var (i := 1) rfl (Or.inl lk__law_other_kinds_starts)) a_nil) lk__law_other_kinds_list) a_nil))) (a_cons (e_tup (a_cons e_str (a_cons (e_tup (a_cons e_str (a_cons (e_cty (fun _ A => c_list A) T.no_list rfl (a_cons (e_var (i := 2) rfl (Or.inl lk__law_other_kinds_names)) a_nil) lk__law_other_kinds_list) a_nil))) a_nil))) (a_cons (e_tup (a_cons e_str (a_cons (e_lst (a_cons e_str (a_cons (e_var (i := 2) rfl (Or.inl lk__law_other_kinds_names)) a_nil))) a_nil))) (a_cons (e_tup (a_cons e_str (a_cons (e_tup (a_cons e_str (a_cons (e_var (i := 2) rfl (Or.inl lk__law_other_kinds_names)) a_nil))) a_nil))) a_nil)))))) (ss_cons (s_for (i_val (e_lst (a_cons e_str (a_cons e_str a_nil)))) (g_nm ⟨nd__law_other_kinds, rfl, Or.inl lk__law_other_kinds_word, Or.inl rfl⟩) (ss_cons (s_for (i_val (e_lst (a_cons (e_tup (a_cons (e_var (i := 4) rfl (Or.inl lk__law_other_kinds_word)) a_nil)) (a_cons (e_tup (a_cons (e_var (i := 4) rfl (Or.inl lk__law_other_kinds_word)) (a_cons (e_var (i := 2) rfl (Or.inl lk__law_other_kinds_names)) (a_cons (e_var (i := 2) rfl (Or.inl lk__law_other_kinds_names)) a_nil)))) (a_cons (e_tup (a_cons (e_var (i := 2) rfl (Or.inl lk__law_other_kinds_names)) (a_cons (e_var (i := 4) rfl (Or.inl lk__law_other_kinds_word)) a_nil))) (a_cons (e_tup (a_cons (e_var (i := 4) rfl (Or.inl lk__law_other_kinds_word)) (a_cons e_non a_nil))) (a_cons (e_tup (a_cons (e_var (i := 4) rfl (Or.inl lk__law_other_kinds_word)) (a_cons (e_var (i := 4) rfl (Or.inl lk__law_other_kinds_word)) a_nil))) (a_cons (e_tup (a_cons e_non (a_cons (e_var (i := 2) rfl (Or.inl lk__law_other_kinds_names)) a_nil))) (a_cons (e_tup (a_cons e_bl (a_cons (e_var (i := 2) rfl (Or.inl lk__law_other_kinds_names)) a_nil))) a_nil))))))))) (g_nm ⟨nd__law_other_kinds, rfl, Or.inl lk__law_other_kinds_paper, Or.inl rfl⟩) (ss_one (s_ex (e_ml (i := 3) PySem.F.slot_list_append PySem.F.type_list_append (fun _ A => m_append A) (a_cons (e_tup (a_cons e_str (a_cons (e_var (i := 7) rfl (Or.inl lk__law_other_kinds_paper)) a_nil))) a_nil) rfl (Or.inl lk__law_other_kinds_wrong))))) (ss_cons (s_ex (e_ml (i := 3) PySem.F.slot_list_append PySem.F.type_list_append (fun _ A => m_append A) (a_cons (e_tup (a_cons e_str (a_cons (e_tup (a_cons (e_var (i := 4) rfl (Or.inl lk__law_other_kinds_word)) (a_cons (e_var (i := 2) rfl (Or.inl lk__law_other_kinds_names)) a_nil))) a_nil))) a_nil) rfl (Or.inl lk__law_other_kinds_wrong))) (ss_one (s_for (i_val (e_lst (a_cons e_non (a_cons e_int (a_cons e_bl (a_cons e_str (a_cons e_str (a_cons (e_tup (a_cons e_str a_nil)) a_nil)))))))) (g_nm ⟨nd__law_other_kinds, rfl, Or.inl lk__law_other_kinds_item, Or.inl rfl⟩) (ss_cons (s_ex (e_ml (i := 3) PySem.F.slot_list_append PySem.F.type_list_append (fun _ A => m_append A) (a_cons (e_tup (a_cons e_str (a_cons (e_tup (a_cons (e_var (i := 4) rfl (Or.inl lk__law_other_kinds_word)) (a_cons (e_bin (fun _ A => o_add A) (e_var (i := 2) rfl (Or.inl lk__law_other_kinds_names)) (e_tup (a_cons (e_var (i := 8) rfl (Or.inl lk__law_other_kinds_item)) a_nil))) a_nil))) a_nil))) a_nil) rfl (Or.inl lk__law_other_kinds_wrong))) (ss_one (s_ex (e_ml (i := 3) PySem.F.slot_list_append PySem.F.type_list_append (fun _ A => m_append A) (a_cons (e_tup (a_cons e_str (a_cons (e_tup (a_cons (e_var (i := 4) rfl (Or.inl lk__law_other_kinds_word)) (a_cons (e_bin (fun _ A => o_add A) (e_tup (a_cons (e_var (i := 8) rfl (Or.inl lk__law_other_kinds_item)) a_nil)) (e_var (i := 2) rfl (Or.inl lk__law_other_kinds_names))) a_nil))) a_nil))) a_nil) rfl (Or.inl lk__law_other_kinds_wrong)))))))))) (ss_cons (s_for (i_rg1 T.no_range (a_cons (e_cb (fun _ A => c_len1 A) T.no_len rfl (a_cons (e_var (i := 1) rfl (Or.inl lk__law_other_kinds_starts)) a_nil) lk__law_other_kinds_len) a_nil) lk__law_other_kinds_range) (g_nm ⟨nd__law_other_kinds, rfl, Or.inl lk__law_other_kinds_at, Or.inl rfl⟩) (ss_cons (s_for (i_val (e_lst (a_cons e_non (a_cons (e_cty (fun _ A => c_str A) T.no_str rfl (a_cons (e_ix (e_var (i := 1) rfl (Or.inl lk__law_other_kinds_starts)) (e_var (i := 5) rfl (Or.inl lk__law_other_kinds_at))) a_nil) lk__law_other_kinds_str) (a_cons (e_tup (a_cons (e_ix (e_var (i := 1) rfl (Or.inl lk__law_other_kinds_starts)) (e_var (i := 5) rfl (Or.inl lk__law_other_kinds_at))) a_nil)) a_nil))))) (g_nm ⟨nd__law_other_kinds, rfl, Or.inl lk__law_other_kinds_item, Or.inl rfl⟩) (ss_one (s_ex (e_ml (i := 3) PySem.F.slot_list_append PySem.F.type_list_append (fun _ A => m_append A) (a_cons (e_tup (a_cons e_str (a_cons (e_bin (fun _ A => o_add A) (e_bin (fun _ A => o_add A) (e_sl (e_var (i := 1) rfl (Or.inl lk__law_other_kinds_starts)) p_no (p_so (e_var (i := 5) rfl (Or.inl lk__law_other_kinds_at)))) (e_tup (a_cons (e_var (i := 8) rfl (Or.inl lk__law_other_kinds_item)) a_nil))) (e_sl (e_var (i := 1) rfl (Or.inl lk__law_other_kinds_starts)) (p_so (e_bin (fun _ A => o_add A) (e_var (i := 5) rfl (Or.inl lk__law_other_kinds_at)) e_int)) p_no)) a_nil))) a_nil) rfl (Or.inl lk__law_other_kinds_wrong))))) (ss_one (s_if (t_cmp (fun _ A => o_in A) (e_ix (e_var (i := 1) rfl (Or.inl lk__law_other_kinds_starts)) (e_var (i := 5) rfl (Or.inl lk__law_other_kinds_at))) (e_tup (a_cons e_int (a_cons e_int a_nil)))) (ss_one (s_ex (e_ml (i := 3) PySem.F.slot_list_append PySem.F.type_list_append (fun _ A => m_append A) (a_cons (e_tup (a_cons e_str (a_cons (e_bin (fun _ A => o_add A) (e_bin (fun _ A => o_add A) (e_sl (e_var (i := 1) rfl (Or.inl lk__law_other_kinds_starts)) p_no (p_so (e_var (i := 5) rfl (Or.inl lk__law_other_kinds_at)))) (e_tup (a_cons (e_cmp (fun _ A => o_eq A) (e_ix (e_var (i := 1) rfl (Or.inl lk__law_other_kinds_starts)) (e_var (i := 5) rfl (Or.inl lk__law_other_kinds_at))) e_int) a_nil))) (e_sl (e_var (i := 1) rfl (Or.inl lk__law_other_kinds_starts)) (p_so (e_bin (fun _ A => o_add A) (e_var (i := 5) rfl (Or.inl lk__law_other_kinds_at)) e_int)) p_no)) a_nil))) a_nil) rfl (Or.inl lk__law_other_kinds_wrong)))) ss_nil)))) (ss_cons (s_for (i_val (e_bin (fun _ A => o_add A) (e_bin (fun _ A => o_add A) (e_var (i := 3) rfl (Or.inl lk__law_other_kinds_wrong)) (e_call h__law_wrong_shapes (a_cons e_str (a_cons (e_var (i := 1) rfl (Or.inl lk__law_other_kinds_starts)) a_nil)) lk__law_other_kinds__law_wrong_shapes)) (e_call h__law_wrong_shapes (a_cons e_str (a_cons (e_tup (a_cons e_str (a_cons (e_var (i := 2) rfl (Or.inl lk__law_other_kinds_names)) a_nil))) a_nil)) lk__law_other_kinds__law_wrong_shapes))) (g_nm ⟨nd__law_other_kinds, rfl, Or.inl lk__law_other_kinds_answer, Or.inl rfl⟩) (ss_one (s_if (t_cmp (fun _ A => o_isnot A) (e_call h_upholds_tasks (a_cons (e_var (i := 0) rfl (Or.inl lk__law_other_kinds_subject)) (a_cons (e_var (i := 6) rfl (Or.inl lk__law_other_kinds_answer)) a_nil)) lk__law_other_kinds_upholds_tasks) e_bl) (ss_one (s_ret e_bl)) ss_nil))) (ss_one (s_ret e_bl))))))
theorem sc__law_same : FnScope ["actual", "due", "one", "other"] ["actual", "due"] (defScope st__law_same) := ⟨rfl, rfl, rfl, by decide +kernel, rfl, by decide +kernel, by decide +kernel⟩
theorem nd__law_same : (["actual", "due", "one", "other"] : List Str).Nodup := sc__law_same.nd
theorem kd__law_same : (defScope st__law_same).kind = .function := rfl
theorem lk__law_same_actual : (defScope st__law_same).names.lookup ("actual" : Str) = some .local := by decide +kernel
theorem lk__law_same_all : (defScope st__law_same).names.lookup ("all" : Str) = some .globalImplicit := by decide +kernel
theorem lk__law_same_bool : (defScope st__law_same).names.lookup ("bool" : Str) = some .globalImplicit := by decide +kernel
theorem lk__law_same_due : (defScope st__law_same).names.lookup ("due" : Str) = some .local := by decide +kernel
theorem lk__law_same_int : (defScope st__law_same).names.lookup ("int" : Str) = some .globalImplicit := by decide +kernel
theorem lk__law_same_isinstance : (defScope st__law_same).names.lookup ("isinstance" : Str) = some .globalImplicit := by decide +kernel
theorem lk__law_same_len : (defScope st__law_same).names.lookup ("len" : Str) = some .globalImplicit := by decide +kernel
theorem lk__law_same_str : (defScope st__law_same).names.lookup ("str" : Str) = some .globalImplicit := by decide +kernel
theorem lk__law_same_tuple : (defScope st__law_same).names.lookup ("tuple" : Str) = some .globalImplicit := by decide +kernel
theorem lk__law_same_zip : (defScope st__law_same).names.lookup ("zip" : Str) = some .globalImplicit := by decide +kernel
theorem calr__law_same (T : Txt K mg) : ∀ n, Cal0 P w K mg base (0 + n) "_law_same" 2 (r__law_same n)
  | 0 => Cal0.none_ T.fn__law_same
  | n + 1 => by
    refine Cal0.of (k := 0 + n) (m := 2) (f := b__law_same (r__law_same n)) T.fn__law_same sc__law_same rfl rfl fun H0 => ?_
    have h__law_same : Cal ⟨P, w, K, mg, base, ["actual", "due", "one", "other"], defScope st__law_same, fun _ => true, 0 + n, H0, []⟩ "_law_same" 2 (r__law_same n) := (calr__law_same T n).cal (Nat.le_refl _)
    exact (ss_cons (s_if (t_isi .tuple rfl T.no_isinstance T.no_tuple (e_var (i := 1) rfl (Or.inl lk__law_same_due)) lk__law_same_isinstance lk__law_same_tuple) (ss_cons (s_if (t_w (w_or (t_not (t_isi .tuple rfl T.no_isinstance T.no_tuple (e_var (i := 0) rfl (Or.inl lk__law_same_actual)) lk__law_same_isinstance lk__law_same_tuple)) (w_or1 (t_cmp (fun _ A => o_ne A) (e_cb (fun _ A => c_len1 A) T.no_len rfl (a_cons (e_var (i := 0) rfl (Or.inl lk__law_same_actual)) a_nil) lk__law_same_len) (e_cb (fun _ A => c_len1 A) T.no_len rfl (a_cons (e_var (i := 1) rfl (Or.inl lk__law_same_due)) a_nil) lk__law_same_len))))) (ss_one (s_ret e_bl)) ss_nil) (ss_one (s_ret (e_cb (fun _ A => c_all A) T.no_all rfl (a_cons (e_lc (own := [("one", 2), ("other", 3)]) nd__law_same (by dsimp only; decide +kernel) rfl rfl (i_zp T.no_zip (a_cons (e_var (i := 0) rfl (Or.inl lk__law_same_actual)) (a_cons (e_var (i := 1) rfl (Or.inl lk__law_same_due)) a_nil)) lk__law_same_zip) (fun _ => (g_tp (gs_cons (g_nm ⟨nd__law_same, rfl, (by first | exact Or.inl rfl | exact Or.inr rfl), (by first | exact Or.inl rfl | exact Or.inr rfl)⟩) (gs_cons (g_nm ⟨nd__law_same, rfl, (by first | exact Or.inl rfl | exact Or.inr rfl), (by first | exact Or.inl rfl | exact Or.inr rfl)⟩) gs_nil)))) (fun _ => ts_no) (fun _ => (e_call ⟨h__law_same.ex⟩ (a_cons (e_var (i := 2) rfl ) (a_cons (e_var (i := 3) rfl ) a_nil)) ))) a_nil) lk__law_same_all)))) ss_nil) (ss_cons (s_if (t_cmp (fun _ A => o_is A) (e_var (i := 1) rfl (Or.inl lk__law_same_due)) e_non) (ss_one (s_ret (e_cmp (fun _ A => o_is A) (e_var (i := 0) rfl (Or.inl lk__law_same_actual)) e_non))) ss_nil) (ss_cons (s_if (t_isi .bool rfl T.no_isinstance T.no_bool (e_var (i := 1) rfl (Or.inl lk__law_same_due)) lk__law_same_isinstance lk__law_same_bool) (ss_one (s_ret (e_and (e_isi .bool rfl T.no_isinstance T.no_bool (e_var (i := 0) rfl (Or.inl lk__law_same_actual)) lk__law_same_isinstance lk__law_same_bool) (e_one (e_cmp (fun _ A => o_eq A) (e_var (i := 0) rfl (Or.inl lk__law_same_actual)) (e_var (i := 1) rfl (Or.inl lk__law_same_due))))))) ss_nil) (ss_cons (s_if (t_isi .int rfl T.no_isinstance T.no_int (e_var (i := 1) rfl (Or.inl lk__law_same_due)) lk__law_same_isinstance lk__law_same_int) (ss_one (s_ret (e_and (e_isi .int rfl T.no_isinstance T.no_int (e_var (i := 0) rfl (Or.inl lk__law_same_actual)) lk__law_same_isinstance lk__law_same_int) (e_and (e_not (e_isi .bool rfl T.no_isinstance T.no_bool (e_var (i := 0) rfl (Or.inl lk__law_same_actual)) lk__law_same_isinstance lk__law_same_bool)) (e_one (e_cmp (fun _ A => o_eq A) (e_var (i := 0) rfl (Or.inl lk__law_same_actual)) (e_var (i := 1) rfl (Or.inl lk__law_same_due)))))))) ss_nil) (ss_one (s_ret (e_and (e_isi .str rfl T.no_isinstance T.no_str (e_var (i := 0) rfl (Or.inl lk__law_same_actual)) lk__law_same_isinstance lk__law_same_str) (e_one (e_cmp (fun _ A => o_eq A) (e_var (i := 0) rfl (Or.inl lk__law_same_actual)) (e_var (i := 1) rfl (Or.inl lk__law_same_due)))))))))))
theorem cal__law_same (T : Txt K mg) : Cal0 P w K mg base 41 "_law_same" 2 m__law_same := by
  have h := calr__law_same (P := P) (w := w) (base := base) T 40
  obtain ⟨f, fd, ps, h1, h2⟩ := h.ex
  exact ⟨f, fd, ps, h1.mono (by decide), h2⟩
theorem sc__law_is_schedule : FnScope ["tasks", "due", "paper", "ends", "k", "before"] ["tasks", "due", "paper"] (defScope st__law_is_schedule) := ⟨rfl, rfl, rfl, by decide +kernel, rfl, by decide +kernel, by decide +kernel⟩
theorem nd__law_is_schedule : (["tasks", "due", "paper", "ends", "k", "before"] : List Str).Nodup := sc__law_is_schedule.nd
theorem kd__law_is_schedule : (defScope st__law_is_schedule).kind = .function := rfl
theorem lk__law_is_schedule_due : (defScope st__law_is_schedule).names.lookup ("due" : Str) = some .local := by decide +kernel
theorem lk__law_is_schedule_ends : (defScope st__law_is_schedule).names.lookup ("ends" : Str) = some .cell := by decide +kernel
theorem lk__law_is_schedule_k : (defScope st__law_is_schedule).names.lookup ("k" : Str) = some .cell := by decide +kernel
theorem lk__law_is_schedule_len : (defScope st__law_is_schedule).names.lookup ("len" : Str) = some .globalImplicit := by decide +kernel
theorem lk__law_is_schedule_paper : (defScope st__law_is_schedule).names.lookup ("paper" : Str) = some .cell := by decide +kernel
theorem lk__law_is_schedule_range : (defScope st__law_is_schedule).names.lookup ("range" : Str) = some .globalImplicit := by decide +kernel
theorem lk__law_is_schedule_tasks : (defScope st__law_is_schedule).names.lookup ("tasks" : Str) = some .local := by decide +kernel
theorem cal__law_is_schedule (T : Txt K mg) : Cal0 P w K mg base 1 "_law_is_schedule" 3 m__law_is_schedule := by
  refine Cal0.of (k := 0) (m := 3) (f := b__law_is_schedule) T.fn__law_is_schedule sc__law_is_schedule rfl rfl fun H0 => ?_
  exact (ss_cons (s_if (t_cmp (fun _ A => o_ne A) (e_cb (fun _ A => c_len1 A) T.no_len rfl (a_cons (e_var (i := 2) rfl (Or.inr (Or.inl lk__law_is_schedule_paper))) a_nil) lk__law_is_schedule_len) (e_cb (fun _ A => c_len1 A) T.no_len rfl (a_cons (e_var (i := 0) rfl (Or.inl lk__law_is_schedule_tasks)) a_nil) lk__law_is_schedule_len)) (ss_one (s_ret e_bl)) ss_nil) (ss_cons (s_set ⟨nd__law_is_schedule, rfl, Or.inr lk__law_is_schedule_ends, Or.inl rfl⟩ e_dnewK) (ss_cons (s_for (i_rg1 T.no_range (a_cons (e_cb (fun _ A => c_len1 A) T.no_len rfl (a_cons (e_var (i := 0) rfl (Or.inl lk__law_is_schedule_tasks)) a_nil) lk__law_is_schedule_len) a_nil) lk__law_is_schedule_range) (g_nm ⟨nd__law_is_schedule, rfl, Or.inr lk__law_is_schedule_k, Or.inl rfl⟩) (ss_cons (s_asg (e_bin (fun _ A => o_add A) (e_ix (e_var (i := 2) rfl (Or.inr (Or.inl lk__law_is_schedule_paper))) (e_var (i := 4) rfl (Or.inr (Or.inl lk__law_is_schedule_k)))) (e_ix (e_ix (e_var (i := 0) rfl (Or.inl lk__law_is_schedule_tasks)) (e_var (i := 4) rfl (Or.inr (Or.inl lk__law_is_schedule_k)))) e_int)) (g_sub (i := 3) (e_ix (e_ix (e_var (i := 0) rfl (Or.inl lk__law_is_schedule_tasks)) (e_var (i := 4) rfl (Or.inr (Or.inl lk__law_is_schedule_k)))) e_int) rfl (Or.inr (Or.inl lk__law_is_schedule_ends)))) (ss_one (s_if (t_w (w_or (t_cmp (fun _ A => o_lt A) (e_ix (e_var (i := 2) rfl (Or.inr (Or.inl lk__law_is_schedule_paper))) (e_var (i := 4) rfl (Or.inr (Or.inl lk__law_is_schedule_k)))) e_int) (w_or1 (t_cmp (fun _ A => o_gt A) (e_bin (fun _ A => o_add A) (e_ix (e_var (i := 2) rfl (Or.inr (Or.inl lk__law_is_schedule_paper))) (e_var (i := 4) rfl (Or.inr (Or.inl lk__law_is_schedule_k)))) (e_ix (e_ix (e_var (i := 0) rfl (Or.inl lk__law_is_schedule_tasks)) (e_var (i := 4) rfl (Or.inr (Or.inl lk__law_is_schedule_k)))) e_int)) (e_var (i := 1) rfl (Or.inl lk__law_is_schedule_due)))))) (ss_one (s_ret e_bl)) ss_nil)))) (ss_cons (s_for (i_rg1 T.no_range (a_cons (e_cb (fun _ A => c_len1 A) T.no_len rfl (a_cons (e_var (i := 0) rfl (Or.inl lk__law_is_schedule_tasks)) a_nil) lk__law_is_schedule_len) a_nil) lk__law_is_schedule_range) (g_nm ⟨nd__law_is_schedule, rfl, Or.inr lk__law_is_schedule_k, Or.inl rfl⟩) (ss_one (s_if (t_cmp (fun _ A => o_gt A) (e_cb (fun _ A => c_len1 A) T.no_len rfl (a_cons (e_lc (own := [("before", 5)]) nd__law_is_schedule (by dsimp only; decide +kernel) rfl rfl (i_val (e_ix (e_ix (e_var (i := 0) rfl (Or.inl lk__law_is_schedule_tasks)) (e_var (i := 4) rfl (Or.inr (Or.inl lk__law_is_schedule_k)))) e_int)) (fun _ => (g_nm ⟨nd__law_is_schedule, rfl, (by first | exact Or.inl rfl | exact Or.inr rfl), (by first | exact Or.inl rfl | exact Or.inr rfl)⟩)) (fun _ => (ts_one (t_cmp (fun _ A => o_gt A) (e_ix (e_var (i := 3) rfl ) (e_var (i := 5) rfl )) (e_ix (e_var (i := 2) rfl ) (e_var (i := 4) rfl ))))) (fun _ => (e_var (i := 5) rfl ))) a_nil) lk__law_is_schedule_len) e_int) (ss_one (s_ret e_bl)) ss_nil))) (ss_one (s_ret e_bl))))))
theorem sc__law_is_hindrance : FnScope ["tasks", "due", "word", "names", "rows", "task", "at", "name"] ["tasks", "due", "word", "names"] (defScope st__law_is_hindrance) := ⟨rfl, rfl, rfl, by decide +kernel, rfl, by decide +kernel, by decide +kernel⟩
theorem nd__law_is_hindrance : (["tasks", "due", "word", "names", "rows", "task", "at", "name"] : List Str).Nodup := sc__law_is_hindrance.nd
theorem kd__law_is_hindrance : (defScope st__law_is_hindrance).kind = .function := rfl
theorem lk__law_is_hindrance_at : (defScope st__law_is_hindrance).names.lookup ("at" : Str) = some .local := by decide +kernel
theorem lk__law_is_hindrance_due : (defScope st__law_is_hindrance).names.lookup ("due" : Str) = some .local := by decide +kernel
theorem lk__law_is_hindrance_len : (defScope st__law_is_hindrance).names.lookup ("len" : Str) = some .globalImplicit := by decide +kernel
theorem lk__law_is_hindrance_names : (defScope st__law_is_hindrance).names.lookup ("names" : Str) = some .local := by decide +kernel
theorem lk__law_is_hindrance_range : (defScope st__law_is_hindrance).names.lookup ("range" : Str) = some .globalImplicit := by decide +kernel
theorem lk__law_is_hindrance_rows : (defScope st__law_is_hindrance).names.lookup ("rows" : Str) = some .cell := by decide +kernel
theorem lk__law_is_hindrance_sum : (defScope st__law_is_hindrance).names.lookup ("sum" : Str) = some .globalImplicit := by decide +kernel
theorem lk__law_is_hindrance_task : (defScope st__law_is_hindrance).names.lookup ("task" : Str) = some .local := by decide +kernel
theorem lk__law_is_hindrance_tasks : (defScope st__law_is_hindrance).names.lookup ("tasks" : Str) = some .local := by decide +kernel
theorem lk__law_is_hindrance_word : (defScope st__law_is_hindrance).names.lookup ("word" : Str) = some .local := by decide +kernel
theorem cal__law_is_hindrance (T : Txt K mg) : Cal0 P w K mg base 1 "_law_is_hindrance" 4 m__law_is_hindrance := by
  refine Cal0.of (k := 0) (m := 4) (f := b__law_is_hindrance) T.fn__law_is_hindrance sc__law_is_hindrance rfl rfl fun H0 => ?_
  exact (ss_cons (s_set ⟨nd__law_is_hindrance, rfl, Or.inr lk__law_is_hindrance_rows, Or.inl rfl⟩ e_dnewK) (ss_cons (s_for (i_val (e_var (i := 0) rfl (Or.inl lk__law_is_hindrance_tasks))) (g_nm ⟨nd__law_is_hindrance, rfl, Or.inl lk__law_is_hindrance_task, Or.inl rfl⟩) (ss_one (s_asg (e_var (i := 5) rfl (Or.inl lk__law_is_hindrance_task)) (g_sub (i := 4) (e_ix (e_var (i := 5) rfl (Or.inl lk__law_is_hindrance_task)) e_int) rfl (Or.inr (Or.inl lk__law_is_hindrance_rows)))))) (ss_cons (s_if (t_cmp (fun _ A => o_eq A) (e_cb (fun _ A => c_len1 A) T.no_len rfl (a_cons (e_var (i := 3) rfl (Or.inl lk__law_is_hindrance_names)) a_nil) lk__law_is_hindrance_len) e_int) (ss_one (s_ret e_bl)) ss_nil) (ss_cons (s_for (i_rg1 T.no_range (a_cons (e_cb (fun _ A => c_len1 A) T.no_len rfl (a_cons (e_var (i := 3) rfl (Or.inl lk__law_is_hindrance_names)) a_nil) lk__law_is_hindrance_len) a_nil) lk__law_is_hindrance_range) (g_nm ⟨nd__law_is_hindrance, rfl, Or.inl lk__law_is_hindrance_at, Or.inl rfl⟩) (ss_cons (s_if (t_w (w_or (t_cmp (fun _ A => o_notin A) (e_ix (e_var (i := 3) rfl (Or.inl lk__law_is_hindrance_names)) (e_var (i := 6) rfl (Or.inl lk__law_is_hindrance_at))) (e_var (i := 4) rfl (Or.inr (Or.inl lk__law_is_hindrance_rows)))) (w_or1 (t_cmp (fun _ A => o_in A) (e_ix (e_var (i := 3) rfl (Or.inl lk__law_is_hindrance_names)) (e_var (i := 6) rfl (Or.inl lk__law_is_hindrance_at))) (e_sl (e_var (i := 3) rfl (Or.inl lk__law_is_hindrance_names)) p_no (p_so (e_var (i := 6) rfl (Or.inl lk__law_is_hindrance_at)))))))) (ss_one (s_ret e_bl)) ss_nil) (ss_one (s_if (t_w (w_and (t_cmp (fun _ A => o_gt A) (e_var (i := 6) rfl (Or.inl lk__law_is_hindrance_at)) e_int) (w_and1 (t_cmp (fun _ A => o_notin A) (e_ix (e_var (i := 3) rfl (Or.inl lk__law_is_hindrance_names)) (e_bin (fun _ A => o_sub A) (e_var (i := 6) rfl (Or.inl lk__law_is_hindrance_at)) e_int)) (e_ix (e_ix (e_var (i := 4) rfl (Or.inr (Or.inl lk__law_is_hindrance_rows))) (e_ix (e_var (i := 3) rfl (Or.inl lk__law_is_hindrance_names)) (e_var (i := 6) rfl (Or.inl lk__law_is_hindrance_at)))) e_int))))) (ss_one (s_ret e_bl)) ss_nil)))) (ss_cons (s_if (t_cmp (fun _ A => o_eq A) (e_var (i := 2) rfl (Or.inl lk__law_is_hindrance_word)) e_str) (ss_one (s_ret (e_cmp (fun _ A => o_in A) (e_ix (e_var (i := 3) rfl (Or.inl lk__law_is_hindrance_names)) (e_un (fun _ A => o_neg A) e_int)) (e_ix (e_ix (e_var (i := 4) rfl (Or.inr (Or.inl lk__law_is_hindrance_rows))) (e_ix (e_var (i := 3) rfl (Or.inl lk__law_is_hindrance_names)) e_int)) e_int)))) ss_nil) (ss_one (s_ret (e_cmp (fun _ A => o_gt A) (e_cb (fun _ A => c_sum A) T.no_sum rfl (a_cons (e_lc (own := [("name", 7)]) nd__law_is_hindrance (by dsimp only; decide +kernel) rfl rfl (i_val (e_var (i := 3) rfl (Or.inl lk__law_is_hindrance_names))) (fun _ => (g_nm ⟨nd__law_is_hindrance, rfl, (by first | exact Or.inl rfl | exact Or.inr rfl), (by first | exact Or.inl rfl | exact Or.inr rfl)⟩)) (fun _ => ts_no) (fun _ => (e_ix (e_ix (e_var (i := 4) rfl ) (e_var (i := 7) rfl )) e_int))) a_nil) lk__law_is_hindrance_sum) (e_var (i := 1) rfl (Or.inl lk__law_is_hindrance_due))))))))))
theorem sc_law : FnScope ["script", "numbers", "subject", "paper", "papers", "names", "early", "starts", "tasks", "due", "word", "task"] ["script"] (defScope st_law) := ⟨rfl, rfl, rfl, by decide +kernel, rfl, by decide +kernel, by decide +kernel⟩
theorem nd_law : (["script", "numbers", "subject", "paper", "papers", "names", "early", "starts", "tasks", "due", "word", "task"] : List Str).Nodup := sc_law.nd
theorem kd_law : (defScope st_law).kind = .function := rfl
theorem lk_law__law_earliest : (defScope st_law).names.lookup ("_law_earliest" : Str) = some .globalImplicit := by decide +kernel
theorem lk_law__law_is_hindrance : (defScope st_law).names.lookup ("_law_is_hindrance" : Str) = some .globalImplicit := by decide +kernel
theorem lk_law__law_is_schedule : (defScope st_law).names.lookup ("_law_is_schedule" : Str) = some .globalImplicit := by decide +kernel
theorem lk_law__law_names_to_try : (defScope st_law).names.lookup ("_law_names_to_try" : Str) = some .globalImplicit := by decide +kernel
theorem lk_law__law_numbers : (defScope st_law).names.lookup ("_law_numbers" : Str) = some .globalImplicit := by decide +kernel
theorem lk_law__law_other_kinds : (defScope st_law).names.lookup ("_law_other_kinds" : Str) = some .globalImplicit := by decide +kernel
theorem lk_law__law_same : (defScope st_law).names.lookup ("_law_same" : Str) = some .globalImplicit := by decide +kernel
theorem lk_law__law_starts_to_try : (defScope st_law).names.lookup ("_law_starts_to_try" : Str) = some .globalImplicit := by decide +kernel
theorem lk_law__law_subject : (defScope st_law).names.lookup ("_law_subject" : Str) = some .globalImplicit := by decide +kernel
theorem lk_law_due : (defScope st_law).names.lookup ("due" : Str) = some .local := by decide +kernel
theorem lk_law_early : (defScope st_law).names.lookup ("early" : Str) = some .cell := by decide +kernel
theorem lk_law_int : (defScope st_law).names.lookup ("int" : Str) = some .globalImplicit := by decide +kernel
theorem lk_law_len : (defScope st_law).names.lookup ("len" : Str) = some .globalImplicit := by decide +kernel
theorem lk_law_names : (defScope st_law).names.lookup ("names" : Str) = some .local := by decide +kernel
theorem lk_law_numbers : (defScope st_law).names.lookup ("numbers" : Str) = some .local := by decide +kernel
theorem lk_law_paper : (defScope st_law).names.lookup ("paper" : Str) = some .local := by decide +kernel
theorem lk_law_papers : (defScope st_law).names.lookup ("papers" : Str) = some .local := by decide +kernel
theorem lk_law_script : (defScope st_law).names.lookup ("script" : Str) = some .local := by decide +kernel
theorem lk_law_starts : (defScope st_law).names.lookup ("starts" : Str) = some .local := by decide +kernel
theorem lk_law_subject : (defScope st_law).names.lookup ("subject" : Str) = some .local := by decide +kernel
theorem lk_law_tasks : (defScope st_law).names.lookup ("tasks" : Str) = some .local := by decide +kernel
theorem lk_law_tuple : (defScope st_law).names.lookup ("tuple" : Str) = some .globalImplicit := by decide +kernel
theorem lk_law_upholds_tasks : (defScope st_law).names.lookup ("upholds_tasks" : Str) = some .globalImplicit := by decide +kernel
theorem lk_law_word : (defScope st_law).names.lookup ("word" : Str) = some .local := by decide +kernel
theorem fnok_law (T : Txt K mg) {f : Addr} {fd : FuncData} (F : L2.Fun K "law" "law" st_law f fd) : FnOk P w K mg base (L2.CX P w) 42 f fd ["script"] (spF K mg 1 m_law) := by
  refine fn_ok (k := 41) (m := 11) (f := b_law) F sc_law rfl rfl fun H0 => ?_
  have h__law_numbers : Cal ⟨P, w, K, mg, base, ["script", "numbers", "subject", "paper", "papers", "names", "early", "starts", "tasks", "due", "word", "task"], defScope st_law, fun _ => true, 41, H0, []⟩ "_law_numbers" 2 m__law_numbers := (cal__law_numbers T).cal (by decide)
  have h__law_earliest : Cal ⟨P, w, K, mg, base, ["script", "numbers", "subject", "paper", "papers", "names", "early", "starts", "tasks", "due", "word", "task"], defScope st_law, fun _ => true, 41, H0, []⟩ "_law_earliest" 1 m__law_earliest := (cal__law_earliest T).cal (by decide)
  have h__law_subject : Cal ⟨P, w, K, mg, base, ["script", "numbers", "subject", "paper", "papers", "names", "early", "starts", "tasks", "due", "word", "task"], defScope st_law, fun _ => true, 41, H0, []⟩ "_law_subject" 1 m__law_subject := (cal__law_subject T).cal (by decide)
  have h__law_starts_to_try : Cal ⟨P, w, K, mg, base, ["script", "numbers", "subject", "paper", "papers", "names", "early", "starts", "tasks", "due", "word", "task"], defScope st_law, fun _ => true, 41, H0, []⟩ "_law_starts_to_try" 3 m__law_starts_to_try := (cal__law_starts_to_try T).cal (by decide)
  have h__law_names_to_try : Cal ⟨P, w, K, mg, base, ["script", "numbers", "subject", "paper", "papers", "names", "early", "starts", "tasks", "due", "word", "task"], defScope st_law, fun _ => true, 41, H0, []⟩ "_law_names_to_try" 2 m__law_names_to_try := (cal__law_names_to_try T).cal (by decide)
  have h_upholds_tasks : Cal ⟨P, w, K, mg, base, ["script", "numbers", "subject", "paper", "papers", "names", "early", "starts", "tasks", "due", "word", "task"], defScope st_law, fun _ => true, 41, H0, []⟩ "upholds_tasks" 2 m_upholds_tasks := (cal_upholds_tasks T).cal (by decide)
  have h__law_other_kinds : Cal ⟨P, w, K, mg, base, ["script", "numbers", "subject", "paper", "papers", "names", "early", "starts", "tasks", "due", "word", "task"], defScope st_law, fun _ => true, 41, H0, []⟩ "_law_other_kinds" 3 m__law_other_kinds := (cal__law_other_kinds T).cal (by decide)
  have h__law_same : Cal ⟨P, w, K, mg, base, ["script", "numbers", "subject", "paper", "papers", "names", "early", "starts", "tasks", "due", "word", "task"], defScope st_law, fun _ => true, 41, H0, []⟩ "_law_same" 2 m__law_same := (cal__law_same T).cal (by decide)
  have h__law_is_schedule : Cal ⟨P, w, K, mg, base, ["script", "numbers", "subject", "paper", "papers", "names", "early", "starts", "tasks", "due", "word", "task"], defScope st_law, fun _ => true, 41, H0, []⟩ "_law_is_schedule" 3 m__law_is_schedule := (cal__law_is_schedule T).cal (by decide)
  have h__law_is_hindrance : Cal ⟨P, w, K, mg, base, ["script", "numbers", "subject", "paper", "papers", "names", "early", "starts", "tasks", "due", "word", "task"], defScope st_law, fun _ => true, 41, H0, []⟩ "_law_is_hindrance" 4 m__law_is_hindrance := (cal__law_is_hindrance T).cal (by decide)
  exact (ss_cons (s_set ⟨nd_law, rfl, Or.inl lk_law_numbers, Or.inl rfl⟩ (e_call h__law_numbers (a_cons (e_var (i := 0) rfl (Or.inl lk_law_script)) (a_cons e_int a_nil)) lk_law__law_numbers)) (ss_cons (s_set ⟨nd_law, rfl, Or.inl lk_law_subject, Or.inl rfl⟩ (e_call h__law_subject (a_cons (e_var (i := 1) rfl (Or.inl lk_law_numbers)) a_nil) lk_law__law_subject)) (ss_cons (s_asg (e_var (i := 2) rfl (Or.inl lk_law_subject)) (g_tp (gs_cons (g_nm ⟨nd_law, rfl, Or.inl lk_law_tasks, Or.inl rfl⟩) (gs_cons (g_nm ⟨nd_law, rfl, Or.inl lk_law_due, Or.inl rfl⟩) gs_nil)))) (ss_cons (s_for (i_val (e_call h__law_starts_to_try (a_cons (e_var (i := 8) rfl (Or.inl lk_law_tasks)) (a_cons (e_var (i := 9) rfl (Or.inl lk_law_due)) (a_cons (e_ix (e_var (i := 1) rfl (Or.inl lk_law_numbers)) e_int) a_nil))) lk_law__law_starts_to_try)) (g_nm ⟨nd_law, rfl, Or.inl lk_law_paper, Or.inl rfl⟩) (ss_one (s_if (t_not (t_tru (e_call h__law_same (a_cons (e_call h_upholds_tasks (a_cons (e_var (i := 2) rfl (Or.inl lk_law_subject)) (a_cons (e_tup (a_cons e_str (a_cons (e_var (i := 3) rfl (Or.inl lk_law_paper)) a_nil))) a_nil)) lk_law_upholds_tasks) (a_cons (e_call h__law_is_schedule (a_cons (e_var (i := 8) rfl (Or.inl lk_law_tasks)) (a_cons (e_var (i := 9) rfl (Or.inl lk_law_due)) (a_cons (e_var (i := 3) rfl (Or.inl lk_law_paper)) a_nil))) lk_law__law_is_schedule) a_nil)) lk_law__law_same))) (ss_one (s_ret e_bl)) ss_nil))) (ss_cons (s_set ⟨nd_law, rfl, Or.inl lk_law_papers, Or.inl rfl⟩ (e_call h__law_names_to_try (a_cons (e_var (i := 8) rfl (Or.inl lk_law_tasks)) (a_cons (e_sl (e_var (i := 1) rfl (Or.inl lk_law_numbers)) (p_so e_int) (p_so e_int)) a_nil)) lk_law__law_names_to_try)) (ss_cons (s_for (i_val (e_var (i := 4) rfl (Or.inl lk_law_papers))) (g_nm ⟨nd_law, rfl, Or.inl lk_law_names, Or.inl rfl⟩) (ss_one (s_for (i_val (e_lst (a_cons e_str (a_cons e_str a_nil)))) (g_nm ⟨nd_law, rfl, Or.inl lk_law_word, Or.inl rfl⟩) (ss_one (s_if (t_not (t_tru (e_call h__law_same (a_cons (e_call h_upholds_tasks (a_cons (e_var (i := 2) rfl (Or.inl lk_law_subject)) (a_cons (e_tup (a_cons e_str (a_cons (e_tup (a_cons (e_var (i := 10) rfl (Or.inl lk_law_word)) (a_cons (e_var (i := 5) rfl (Or.inl lk_law_names)) a_nil))) a_nil))) a_nil)) lk_law_upholds_tasks) (a_cons (e_call h__law_is_hindrance (a_cons (e_var (i := 8) rfl (Or.inl lk_law_tasks)) (a_cons (e_var (i := 9) rfl (Or.inl lk_law_due)) (a_cons (e_var (i := 10) rfl (Or.inl lk_law_word)) (a_cons (e_var (i := 5) rfl (Or.inl lk_law_names)) a_nil)))) lk_law__law_is_hindrance) a_nil)) lk_law__law_same))) (ss_one (s_ret e_bl)) ss_nil))))) (ss_cons (s_set ⟨nd_law, rfl, Or.inr lk_law_early, Or.inl rfl⟩ (e_call h__law_earliest (a_cons (e_var (i := 8) rfl (Or.inl lk_law_tasks)) a_nil) lk_law__law_earliest)) (ss_cons (s_set ⟨nd_law, rfl, Or.inl lk_law_starts, Or.inl rfl⟩ (e_cty (fun _ A => c_tup A) T.no_tuple rfl (a_cons (e_lc (own := [("task", 11)]) nd_law (by dsimp only; decide +kernel) rfl rfl (i_val (e_var (i := 8) rfl (Or.inl lk_law_tasks))) (fun _ => (g_nm ⟨nd_law, rfl, (by first | exact Or.inl rfl | exact Or.inr rfl), (by first | exact Or.inl rfl | exact Or.inr rfl)⟩)) (fun _ => ts_no) (fun _ => e_int)) a_nil) lk_law_tuple)) (ss_cons (s_if (t_cmp (fun _ A => o_isnot A) (e_var (i := 6) rfl (Or.inr (Or.inl lk_law_early))) e_non) (ss_one (s_set ⟨nd_law, rfl, Or.inl lk_law_starts, Or.inl rfl⟩ (e_cty (fun _ A => c_tup A) T.no_tuple rfl (a_cons (e_lc (own := [("task", 11)]) nd_law (by dsimp only; decide +kernel) rfl rfl (i_val (e_var (i := 8) rfl (Or.inl lk_law_tasks))) (fun _ => (g_nm ⟨nd_law, rfl, (by first | exact Or.inl rfl | exact Or.inr rfl), (by first | exact Or.inl rfl | exact Or.inr rfl)⟩)) (fun _ => ts_no) (fun _ => (e_ix (e_var (i := 6) rfl ) (e_ix (e_var (i := 11) rfl ) e_int)))) a_nil) lk_law_tuple))) ss_nil) (ss_one (s_ret (e_call h__law_other_kinds (a_cons (e_var (i := 2) rfl (Or.inl lk_law_subject)) (a_cons (e_var (i := 7) rfl (Or.inl lk_law_starts)) (a_cons (e_ix (e_var (i := 4) rfl (Or.inl lk_law_papers)) (e_bin (fun _ A => o_mod A) (e_cty (fun _ A => c_int A) T.no_int rfl (a_cons (e_ix (e_var (i := 1) rfl (Or.inl lk_law_numbers)) e_int) a_nil) lk_law_int) (e_cb (fun _ A => c_len1 A) T.no_len rfl (a_cons (e_var (i := 4) rfl (Or.inl lk_law_papers)) a_nil) lk_law_len))) a_nil))) lk_law__law_other_kinds))))))))))))
end
theorem all_mk {l : PySem.W.OpenLaw} {w : World} {K : PySem.W.Frag} {h : Heap} {mg : Str → Option Value} {fa : Addr} (X : K.In h) (G : h.Ns mainGlobals mg) (hfa : mg "law" = some (.ref fa)) (hF : ∀ ns : List Int, ns.length ≤ 63 → m_law [.scr ns] = .ok (.v (.bl true)))
    {C_BadTask : Addr} {t_DIGITS : Tok} {t_LAST_DUE : Tok} {t_LETTERS : Tok} {t_MOST_DAYS : Tok} {t_MOST_TASKS : Tok} {f__law_numbers : Addr} {oc__law_numbers : Value} {kV__law_numbers : Value} {dc__law_numbers : Value} {pm__law_numbers : Value} {cd__law_numbers : Value} {ct__law_numbers : Value} {od__law_numbers : Option Addr} {an__law_numbers : Option Addr} {sl__law_numbers : Array (Option Value)} {f__law_name : Addr} {oc__law_name : Value} {kV__law_name : Value} {dc__law_name : Value} {pm__law_name : Value} {cd__law_name : Value} {ct__law_name : Value} {od__law_name : Option Addr} {an__law_name : Option Addr} {sl__law_name : Array (Option Value)} {f__law_pool : Addr} {oc__law_pool : Value} {kV__law_pool : Value} {dc__law_pool : Value} {pm__law_pool : Value} {cd__law_pool : Value} {ct__law_pool : Value} {od__law_pool : Option Addr} {an__law_pool : Option Addr} {sl__law_pool : Array (Option Value)} {f__law_earliest : Addr} {oc__law_earliest : Value} {kV__law_earliest : Value} {dc__law_earliest : Value} {pm__law_earliest : Value} {cd__law_earliest : Value} {ct__law_earliest : Value} {od__law_earliest : Option Addr} {an__law_earliest : Option Addr} {sl__law_earliest : Array (Option Value)} {f__law_due : Addr} {oc__law_due : Value} {kV__law_due : Value} {dc__law_due : Value} {pm__law_due : Value} {cd__law_due : Value} {ct__law_due : Value} {od__law_due : Option Addr} {an__law_due : Option Addr} {sl__law_due : Array (Option Value)} {f__law_subject : Addr} {oc__law_subject : Value} {kV__law_subject : Value} {dc__law_subject : Value} {pm__law_subject : Value} {cd__law_subject : Value} {ct__law_subject : Value} {od__law_subject : Option Addr} {an__law_subject : Option Addr} {sl__law_subject : Array (Option Value)} {f__law_latest : Addr} {oc__law_latest : Value} {kV__law_latest : Value} {dc__law_latest : Value} {pm__law_latest : Value} {cd__law_latest : Value} {ct__law_latest : Value} {od__law_latest : Option Addr} {an__law_latest : Option Addr} {sl__law_latest : Array (Option Value)} {f__law_starts_to_try : Addr} {oc__law_starts_to_try : Value} {kV__law_starts_to_try : Value} {dc__law_starts_to_try : Value} {pm__law_starts_to_try : Value} {cd__law_starts_to_try : Value} {ct__law_starts_to_try : Value} {od__law_starts_to_try : Option Addr} {an__law_starts_to_try : Option Addr} {sl__law_starts_to_try : Array (Option Value)} {f__law_stranger : Addr} {oc__law_stranger : Value} {kV__law_stranger : Value} {dc__law_stranger : Value} {pm__law_stranger : Value} {cd__law_stranger : Value} {ct__law_stranger : Value} {od__law_stranger : Option Addr} {an__law_stranger : Option Addr} {sl__law_stranger : Array (Option Value)} {f__law_walk : Addr} {oc__law_walk : Value} {kV__law_walk : Value} {dc__law_walk : Value} {pm__law_walk : Value} {cd__law_walk : Value} {ct__law_walk : Value} {od__law_walk : Option Addr} {an__law_walk : Option Addr} {sl__law_walk : Array (Option Value)} {f__law_names_to_try : Addr} {oc__law_names_to_try : Value} {kV__law_names_to_try : Value} {dc__law_names_to_try : Value} {pm__law_names_to_try : Value} {cd__law_names_to_try : Value} {ct__law_names_to_try : Value} {od__law_names_to_try : Option Addr} {an__law_names_to_try : Option Addr} {sl__law_names_to_try : Array (Option Value)} {f__law_wrong_shapes : Addr} {oc__law_wrong_shapes : Value} {kV__law_wrong_shapes : Value} {dc__law_wrong_shapes : Value} {pm__law_wrong_shapes : Value} {cd__law_wrong_shapes : Value} {ct__law_wrong_shapes : Value} {od__law_wrong_shapes : Option Addr} {an__law_wrong_shapes : Option Addr} {sl__law_wrong_shapes : Array (Option Value)} {f_is_tuple_of : Addr} {oc_is_tuple_of : Value} {kV_is_tuple_of : Value} {dc_is_tuple_of : Value} {pm_is_tuple_of : Value} {cd_is_tuple_of : Value} {ct_is_tuple_of : Value} {od_is_tuple_of : Option Addr} {an_is_tuple_of : Option Addr} {sl_is_tuple_of : Array (Option Value)} {f_is_whole : Addr} {oc_is_whole : Value} {kV_is_whole : Value} {dc_is_whole : Value} {pm_is_whole : Value} {cd_is_whole : Value} {ct_is_whole : Value} {od_is_whole : Option Addr} {an_is_whole : Option Addr} {sl_is_whole : Array (Option Value)} {f_is_whole_in : Addr} {oc_is_whole_in : Value} {kV_is_whole_in : Value} {dc_is_whole_in : Value} {pm_is_whole_in : Value} {cd_is_whole_in : Value} {ct_is_whole_in : Value} {od_is_whole_in : Option Addr} {an_is_whole_in : Option Addr} {sl_is_whole_in : Array (Option Value)} {f_is_name : Addr} {oc_is_name : Value} {kV_is_name : Value} {dc_is_name : Value} {pm_is_name : Value} {cd_is_name : Value} {ct_is_name : Value} {od_is_name : Option Addr} {an_is_name : Option Addr} {sl_is_name : Array (Option Value)} {f_is_names : Addr} {oc_is_names : Value} {kV_is_names : Value} {dc_is_names : Value} {pm_is_names : Value} {cd_is_names : Value} {ct_is_names : Value} {od_is_names : Option Addr} {an_is_names : Option Addr} {sl_is_names : Array (Option Value)} {f_is_task : Addr} {oc_is_task : Value} {kV_is_task : Value} {dc_is_task : Value} {pm_is_task : Value} {cd_is_task : Value} {ct_is_task : Value} {od_is_task : Option Addr} {an_is_task : Option Addr} {sl_is_task : Array (Option Value)} {f_check_tasks : Addr} {oc_check_tasks : Value} {kV_check_tasks : Value} {dc_check_tasks : Value} {pm_check_tasks : Value} {cd_check_tasks : Value} {ct_check_tasks : Value} {od_check_tasks : Option Addr} {an_check_tasks : Option Addr} {sl_check_tasks : Array (Option Value)} {f_same_single : Addr} {oc_same_single : Value} {kV_same_single : Value} {dc_same_single : Value} {pm_same_single : Value} {cd_same_single : Value} {ct_same_single : Value} {od_same_single : Option Addr} {an_same_single : Option Addr} {sl_same_single : Array (Option Value)} {f_same : Addr} {oc_same : Value} {kV_same : Value} {dc_same : Value} {pm_same : Value} {cd_same : Value} {ct_same : Value} {od_same : Option Addr} {an_same : Option Addr} {sl_same : Array (Option Value)} {f_is_hindrance : Addr} {oc_is_hindrance : Value} {kV_is_hindrance : Value} {dc_is_hindrance : Value} {pm_is_hindrance : Value} {cd_is_hindrance : Value} {ct_is_hindrance : Value} {od_is_hindrance : Option Addr} {an_is_hindrance : Option Addr} {sl_is_hindrance : Array (Option Value)} {f_is_answer : Addr} {oc_is_answer : Value} {kV_is_answer : Value} {dc_is_answer : Value} {pm_is_answer : Value} {cd_is_answer : Value} {ct_is_answer : Value} {od_is_answer : Option Addr} {an_is_answer : Option Addr} {sl_is_answer : Array (Option Value)} {f_is_timely : Addr} {oc_is_timely : Value} {kV_is_timely : Value} {dc_is_timely : Value} {pm_is_timely : Value} {cd_is_timely : Value} {ct_is_timely : Value} {od_is_timely : Option Addr} {an_is_timely : Option Addr} {sl_is_timely : Array (Option Value)} {f_upholds_tasks : Addr} {oc_upholds_tasks : Value} {kV_upholds_tasks : Value} {dc_upholds_tasks : Value} {pm_upholds_tasks : Value} {cd_upholds_tasks : Value} {ct_upholds_tasks : Value} {od_upholds_tasks : Option Addr} {an_upholds_tasks : Option Addr} {sl_upholds_tasks : Array (Option Value)} {f__law_other_kinds : Addr} {oc__law_other_kinds : Value} {kV__law_other_kinds : Value} {dc__law_other_kinds : Value} {pm__law_other_kinds : Value} {cd__law_other_kinds : Value} {ct__law_other_kinds : Value} {od__law_other_kinds : Option Addr} {an__law_other_kinds : Option Addr} {sl__law_other_kinds : Array (Option Value)} {f__law_same : Addr} {oc__law_same : Value} {kV__law_same : Value} {dc__law_same : Value} {pm__law_same : Value} {cd__law_same : Value} {ct__law_same : Value} {od__law_same : Option Addr} {an__law_same : Option Addr} {sl__law_same : Array (Option Value)} {f__law_is_schedule : Addr} {oc__law_is_schedule : Value} {kV__law_is_schedule : Value} {dc__law_is_schedule : Value} {pm__law_is_schedule : Value} {cd__law_is_schedule : Value} {ct__law_is_schedule : Value} {od__law_is_schedule : Option Addr} {an__law_is_schedule : Option Addr} {sl__law_is_schedule : Array (Option Value)} {f__law_is_hindrance : Addr} {oc__law_is_hindrance : Value} {kV__law_is_hindrance : Value} {dc__law_is_hindrance : Value} {pm__law_is_hindrance : Value} {cd__law_is_hindrance : Value} {ct__law_is_hindrance : Value} {od__law_is_hindrance : Option Addr} {an__law_is_hindrance : Option Addr} {sl__law_is_hindrance : Array (Option Value)} {f_law : Addr} {oc_law : Value} {kV_law : Value} {dc_law : Value} {pm_law : Value} {cd_law : Value} {ct_law : Value} {od_law : Option Addr} {an_law : Option Addr} {sl_law : Array (Option Value)}
    (g_BadTask : PySem.W.nsIn K mainGlobals "BadTask" = some (some (.ref C_BadTask)))
    (s_BadTask : PySem.W.subIn K (.ref C_BadTask) (.type "BaseException") = some true)
    (t_BadTask : PySem.W.typeIn K (.ref C_BadTask) = some (.type "type"))
    (e_BadTask : PySem.W.excIn K C_BadTask [.type "ValueError", .type "Exception", .type "BaseException", .type "object"] "ValueError.__new__" = true)
    (k_BadTask : PySem.W.keepIn K (.ref C_BadTask) = true)
    (v_DIGITS : PySem.W.nsIn K mainGlobals "DIGITS" = some (some (.str "0123456789" t_DIGITS)))
    (v_LAST_DUE : PySem.W.nsIn K mainGlobals "LAST_DUE" = some (some (.int 2000 t_LAST_DUE)))
    (v_LETTERS : PySem.W.nsIn K mainGlobals "LETTERS" = some (some (.str "abcdefghijklmnopqrstuvwxyz" t_LETTERS)))
    (v_MOST_DAYS : PySem.W.nsIn K mainGlobals "MOST_DAYS" = some (some (.int 100 t_MOST_DAYS)))
    (v_MOST_TASKS : PySem.W.nsIn K mainGlobals "MOST_TASKS" = some (some (.int 16 t_MOST_TASKS)))
    (n_abs : PySem.W.nsIn K mainGlobals "abs" = some none)
    (n_all : PySem.W.nsIn K mainGlobals "all" = some none)
    (n_bool : PySem.W.nsIn K mainGlobals "bool" = some none)
    (n_int : PySem.W.nsIn K mainGlobals "int" = some none)
    (n_isinstance : PySem.W.nsIn K mainGlobals "isinstance" = some none)
    (n_len : PySem.W.nsIn K mainGlobals "len" = some none)
    (n_list : PySem.W.nsIn K mainGlobals "list" = some none)
    (n_max : PySem.W.nsIn K mainGlobals "max" = some none)
    (n_min : PySem.W.nsIn K mainGlobals "min" = some none)
    (n_range : PySem.W.nsIn K mainGlobals "range" = some none)
    (n_str : PySem.W.nsIn K mainGlobals "str" = some none)
    (n_sum : PySem.W.nsIn K mainGlobals "sum" = some none)
    (n_tuple : PySem.W.nsIn K mainGlobals "tuple" = some none)
    (n_zip : PySem.W.nsIn K mainGlobals "zip" = some none)
    (a__law_numbers : PySem.W.nsIn K mainGlobals "_law_numbers" = some (some (.ref f__law_numbers)))
    (l__law_numbers : K.lookup f__law_numbers = some ⟨oc__law_numbers, od__law_numbers, .func (PySem.W.fnOf "_law_numbers" "_law_numbers" (defArgs st__law_numbers) (defBody st__law_numbers) (defScope st__law_numbers) .none kV__law_numbers dc__law_numbers pm__law_numbers an__law_numbers cd__law_numbers ct__law_numbers), sl__law_numbers⟩)
    (c__law_numbers : PySem.W.codeIn K cd__law_numbers "_law_numbers" = true)
    (k__law_numbers : PySem.W.keepIn K (.ref f__law_numbers) = true)
    (a__law_name : PySem.W.nsIn K mainGlobals "_law_name" = some (some (.ref f__law_name)))
    (l__law_name : K.lookup f__law_name = some ⟨oc__law_name, od__law_name, .func (PySem.W.fnOf "_law_name" "_law_name" (defArgs st__law_name) (defBody st__law_name) (defScope st__law_name) .none kV__law_name dc__law_name pm__law_name an__law_name cd__law_name ct__law_name), sl__law_name⟩)
    (c__law_name : PySem.W.codeIn K cd__law_name "_law_name" = true)
    (k__law_name : PySem.W.keepIn K (.ref f__law_name) = true)
    (a__law_pool : PySem.W.nsIn K mainGlobals "_law_pool" = some (some (.ref f__law_pool)))
    (l__law_pool : K.lookup f__law_pool = some ⟨oc__law_pool, od__law_pool, .func (PySem.W.fnOf "_law_pool" "_law_pool" (defArgs st__law_pool) (defBody st__law_pool) (defScope st__law_pool) .none kV__law_pool dc__law_pool pm__law_pool an__law_pool cd__law_pool ct__law_pool), sl__law_pool⟩)
    (c__law_pool : PySem.W.codeIn K cd__law_pool "_law_pool" = true)
    (k__law_pool : PySem.W.keepIn K (.ref f__law_pool) = true)
    (a__law_earliest : PySem.W.nsIn K mainGlobals "_law_earliest" = some (some (.ref f__law_earliest)))
    (l__law_earliest : K.lookup f__law_earliest = some ⟨oc__law_earliest, od__law_earliest, .func (PySem.W.fnOf "_law_earliest" "_law_earliest" (defArgs st__law_earliest) (defBody st__law_earliest) (defScope st__law_earliest) .none kV__law_earliest dc__law_earliest pm__law_earliest an__law_earliest cd__law_earliest ct__law_earliest), sl__law_earliest⟩)
    (c__law_earliest : PySem.W.codeIn K cd__law_earliest "_law_earliest" = true)
    (k__law_earliest : PySem.W.keepIn K (.ref f__law_earliest) = true)
    (a__law_due : PySem.W.nsIn K mainGlobals "_law_due" = some (some (.ref f__law_due)))
    (l__law_due : K.lookup f__law_due = some ⟨oc__law_due, od__law_due, .func (PySem.W.fnOf "_law_due" "_law_due" (defArgs st__law_due) (defBody st__law_due) (defScope st__law_due) .none kV__law_due dc__law_due pm__law_due an__law_due cd__law_due ct__law_due), sl__law_due⟩)
    (c__law_due : PySem.W.codeIn K cd__law_due "_law_due" = true)
    (k__law_due : PySem.W.keepIn K (.ref f__law_due) = true)
    (a__law_subject : PySem.W.nsIn K mainGlobals "_law_subject" = some (some (.ref f__law_subject)))
    (l__law_subject : K.lookup f__law_subject = some ⟨oc__law_subject, od__law_subject, .func (PySem.W.fnOf "_law_subject" "_law_subject" (defArgs st__law_subject) (defBody st__law_subject) (defScope st__law_subject) .none kV__law_subject dc__law_subject pm__law_subject an__law_subject cd__law_subject ct__law_subject), sl__law_subject⟩)
    (c__law_subject : PySem.W.codeIn K cd__law_subject "_law_subject" = true)
    (k__law_subject : PySem.W.keepIn K (.ref f__law_subject) = true)
    (a__law_latest : PySem.W.nsIn K mainGlobals "_law_latest" = some (some (.ref f__law_latest)))
    (l__law_latest : K.lookup f__law_latest = some ⟨oc__law_latest, od__law_latest, .func (PySem.W.fnOf "_law_latest" "_law_latest" (defArgs st__law_latest) (defBody st__law_latest) (defScope st__law_latest) .none kV__law_latest dc__law_latest pm__law_latest an__law_latest cd__law_latest ct__law_latest), sl__law_latest⟩)
    (c__law_latest : PySem.W.codeIn K cd__law_latest "_law_latest" = true)
    (k__law_latest : PySem.W.keepIn K (.ref f__law_latest) = true)
    (a__law_starts_to_try : PySem.W.nsIn K mainGlobals "_law_starts_to_try" = some (some (.ref f__law_starts_to_try)))
    (l__law_starts_to_try : K.lookup f__law_starts_to_try = some ⟨oc__law_starts_to_try, od__law_starts_to_try, .func (PySem.W.fnOf "_law_starts_to_try" "_law_starts_to_try" (defArgs st__law_starts_to_try) (defBody st__law_starts_to_try) (defScope st__law_starts_to_try) .none kV__law_starts_to_try dc__law_starts_to_try pm__law_starts_to_try an__law_starts_to_try cd__law_starts_to_try ct__law_starts_to_try), sl__law_starts_to_try⟩)
    (c__law_starts_to_try : PySem.W.codeIn K cd__law_starts_to_try "_law_starts_to_try" = true)
    (k__law_starts_to_try : PySem.W.keepIn K (.ref f__law_starts_to_try) = true)
    (a__law_stranger : PySem.W.nsIn K mainGlobals "_law_stranger" = some (some (.ref f__law_stranger)))
    (l__law_stranger : K.lookup f__law_stranger = some ⟨oc__law_stranger, od__law_stranger, .func (PySem.W.fnOf "_law_stranger" "_law_stranger" (defArgs st__law_stranger) (defBody st__law_stranger) (defScope st__law_stranger) .none kV__law_stranger dc__law_stranger pm__law_stranger an__law_stranger cd__law_stranger ct__law_stranger), sl__law_stranger⟩)
    (c__law_stranger : PySem.W.codeIn K cd__law_stranger "_law_stranger" = true)
    (k__law_stranger : PySem.W.keepIn K (.ref f__law_stranger) = true)
    (a__law_walk : PySem.W.nsIn K mainGlobals "_law_walk" = some (some (.ref f__law_walk)))
    (l__law_walk : K.lookup f__law_walk = some ⟨oc__law_walk, od__law_walk, .func (PySem.W.fnOf "_law_walk" "_law_walk" (defArgs st__law_walk) (defBody st__law_walk) (defScope st__law_walk) .none kV__law_walk dc__law_walk pm__law_walk an__law_walk cd__law_walk ct__law_walk), sl__law_walk⟩)
    (c__law_walk : PySem.W.codeIn K cd__law_walk "_law_walk" = true)
    (k__law_walk : PySem.W.keepIn K (.ref f__law_walk) = true)
    (a__law_names_to_try : PySem.W.nsIn K mainGlobals "_law_names_to_try" = some (some (.ref f__law_names_to_try)))
    (l__law_names_to_try : K.lookup f__law_names_to_try = some ⟨oc__law_names_to_try, od__law_names_to_try, .func (PySem.W.fnOf "_law_names_to_try" "_law_names_to_try" (defArgs st__law_names_to_try) (defBody st__law_names_to_try) (defScope st__law_names_to_try) .none kV__law_names_to_try dc__law_names_to_try pm__law_names_to_try an__law_names_to_try cd__law_names_to_try ct__law_names_to_try), sl__law_names_to_try⟩)
    (c__law_names_to_try : PySem.W.codeIn K cd__law_names_to_try "_law_names_to_try" = true)
    (k__law_names_to_try : PySem.W.keepIn K (.ref f__law_names_to_try) = true)
    (a__law_wrong_shapes : PySem.W.nsIn K mainGlobals "_law_wrong_shapes" = some (some (.ref f__law_wrong_shapes)))
    (l__law_wrong_shapes : K.lookup f__law_wrong_shapes = some ⟨oc__law_wrong_shapes, od__law_wrong_shapes, .func (PySem.W.fnOf "_law_wrong_shapes" "_law_wrong_shapes" (defArgs st__law_wrong_shapes) (defBody st__law_wrong_shapes) (defScope st__law_wrong_shapes) .none kV__law_wrong_shapes dc__law_wrong_shapes pm__law_wrong_shapes an__law_wrong_shapes cd__law_wrong_shapes ct__law_wrong_shapes), sl__law_wrong_shapes⟩)
    (c__law_wrong_shapes : PySem.W.codeIn K cd__law_wrong_shapes "_law_wrong_shapes" = true)
    (k__law_wrong_shapes : PySem.W.keepIn K (.ref f__law_wrong_shapes) = true)
    (a_is_tuple_of : PySem.W.nsIn K mainGlobals "is_tuple_of" = some (some (.ref f_is_tuple_of)))
    (l_is_tuple_of : K.lookup f_is_tuple_of = some ⟨oc_is_tuple_of, od_is_tuple_of, .func (PySem.W.fnOf "is_tuple_of" "is_tuple_of" (defArgs st_is_tuple_of) (defBody st_is_tuple_of) (defScope st_is_tuple_of) .none kV_is_tuple_of dc_is_tuple_of pm_is_tuple_of an_is_tuple_of cd_is_tuple_of ct_is_tuple_of), sl_is_tuple_of⟩)
    (c_is_tuple_of : PySem.W.codeIn K cd_is_tuple_of "is_tuple_of" = true)
    (k_is_tuple_of : PySem.W.keepIn K (.ref f_is_tuple_of) = true)
    (a_is_whole : PySem.W.nsIn K mainGlobals "is_whole" = some (some (.ref f_is_whole)))
    (l_is_whole : K.lookup f_is_whole = some ⟨oc_is_whole, od_is_whole, .func (PySem.W.fnOf "is_whole" "is_whole" (defArgs st_is_whole) (defBody st_is_whole) (defScope st_is_whole) .none kV_is_whole dc_is_whole pm_is_whole an_is_whole cd_is_whole ct_is_whole), sl_is_whole⟩)
    (c_is_whole : PySem.W.codeIn K cd_is_whole "is_whole" = true)
    (k_is_whole : PySem.W.keepIn K (.ref f_is_whole) = true)
    (a_is_whole_in : PySem.W.nsIn K mainGlobals "is_whole_in" = some (some (.ref f_is_whole_in)))
    (l_is_whole_in : K.lookup f_is_whole_in = some ⟨oc_is_whole_in, od_is_whole_in, .func (PySem.W.fnOf "is_whole_in" "is_whole_in" (defArgs st_is_whole_in) (defBody st_is_whole_in) (defScope st_is_whole_in) .none kV_is_whole_in dc_is_whole_in pm_is_whole_in an_is_whole_in cd_is_whole_in ct_is_whole_in), sl_is_whole_in⟩)
    (c_is_whole_in : PySem.W.codeIn K cd_is_whole_in "is_whole_in" = true)
    (k_is_whole_in : PySem.W.keepIn K (.ref f_is_whole_in) = true)
    (a_is_name : PySem.W.nsIn K mainGlobals "is_name" = some (some (.ref f_is_name)))
    (l_is_name : K.lookup f_is_name = some ⟨oc_is_name, od_is_name, .func (PySem.W.fnOf "is_name" "is_name" (defArgs st_is_name) (defBody st_is_name) (defScope st_is_name) .none kV_is_name dc_is_name pm_is_name an_is_name cd_is_name ct_is_name), sl_is_name⟩)
    (c_is_name : PySem.W.codeIn K cd_is_name "is_name" = true)
    (k_is_name : PySem.W.keepIn K (.ref f_is_name) = true)
    (a_is_names : PySem.W.nsIn K mainGlobals "is_names" = some (some (.ref f_is_names)))
    (l_is_names : K.lookup f_is_names = some ⟨oc_is_names, od_is_names, .func (PySem.W.fnOf "is_names" "is_names" (defArgs st_is_names) (defBody st_is_names) (defScope st_is_names) .none kV_is_names dc_is_names pm_is_names an_is_names cd_is_names ct_is_names), sl_is_names⟩)
    (c_is_names : PySem.W.codeIn K cd_is_names "is_names" = true)
    (k_is_names : PySem.W.keepIn K (.ref f_is_names) = true)
    (a_is_task : PySem.W.nsIn K mainGlobals "is_task" = some (some (.ref f_is_task)))
    (l_is_task : K.lookup f_is_task = some ⟨oc_is_task, od_is_task, .func (PySem.W.fnOf "is_task" "is_task" (defArgs st_is_task) (defBody st_is_task) (defScope st_is_task) .none kV_is_task dc_is_task pm_is_task an_is_task cd_is_task ct_is_task), sl_is_task⟩)
    (c_is_task : PySem.W.codeIn K cd_is_task "is_task" = true)
    (k_is_task : PySem.W.keepIn K (.ref f_is_task) = true)
    (a_check_tasks : PySem.W.nsIn K mainGlobals "check_tasks" = some (some (.ref f_check_tasks)))
    (l_check_tasks : K.lookup f_check_tasks = some ⟨oc_check_tasks, od_check_tasks, .func (PySem.W.fnOf "check_tasks" "check_tasks" (defArgs st_check_tasks) (defBody st_check_tasks) (defScope st_check_tasks) .none kV_check_tasks dc_check_tasks pm_check_tasks an_check_tasks cd_check_tasks ct_check_tasks), sl_check_tasks⟩)
    (c_check_tasks : PySem.W.codeIn K cd_check_tasks "check_tasks" = true)
    (k_check_tasks : PySem.W.keepIn K (.ref f_check_tasks) = true)
    (a_same_single : PySem.W.nsIn K mainGlobals "same_single" = some (some (.ref f_same_single)))
    (l_same_single : K.lookup f_same_single = some ⟨oc_same_single, od_same_single, .func (PySem.W.fnOf "same_single" "same_single" (defArgs st_same_single) (defBody st_same_single) (defScope st_same_single) .none kV_same_single dc_same_single pm_same_single an_same_single cd_same_single ct_same_single), sl_same_single⟩)
    (c_same_single : PySem.W.codeIn K cd_same_single "same_single" = true)
    (k_same_single : PySem.W.keepIn K (.ref f_same_single) = true)
    (a_same : PySem.W.nsIn K mainGlobals "same" = some (some (.ref f_same)))
    (l_same : K.lookup f_same = some ⟨oc_same, od_same, .func (PySem.W.fnOf "same" "same" (defArgs st_same) (defBody st_same) (defScope st_same) .none kV_same dc_same pm_same an_same cd_same ct_same), sl_same⟩)
    (c_same : PySem.W.codeIn K cd_same "same" = true)
    (k_same : PySem.W.keepIn K (.ref f_same) = true)
    (a_is_hindrance : PySem.W.nsIn K mainGlobals "is_hindrance" = some (some (.ref f_is_hindrance)))
    (l_is_hindrance : K.lookup f_is_hindrance = some ⟨oc_is_hindrance, od_is_hindrance, .func (PySem.W.fnOf "is_hindrance" "is_hindrance" (defArgs st_is_hindrance) (defBody st_is_hindrance) (defScope st_is_hindrance) .none kV_is_hindrance dc_is_hindrance pm_is_hindrance an_is_hindrance cd_is_hindrance ct_is_hindrance), sl_is_hindrance⟩)
    (c_is_hindrance : PySem.W.codeIn K cd_is_hindrance "is_hindrance" = true)
    (k_is_hindrance : PySem.W.keepIn K (.ref f_is_hindrance) = true)
    (a_is_answer : PySem.W.nsIn K mainGlobals "is_answer" = some (some (.ref f_is_answer)))
    (l_is_answer : K.lookup f_is_answer = some ⟨oc_is_answer, od_is_answer, .func (PySem.W.fnOf "is_answer" "is_answer" (defArgs st_is_answer) (defBody st_is_answer) (defScope st_is_answer) .none kV_is_answer dc_is_answer pm_is_answer an_is_answer cd_is_answer ct_is_answer), sl_is_answer⟩)
    (c_is_answer : PySem.W.codeIn K cd_is_answer "is_answer" = true)
    (k_is_answer : PySem.W.keepIn K (.ref f_is_answer) = true)
    (a_is_timely : PySem.W.nsIn K mainGlobals "is_timely" = some (some (.ref f_is_timely)))
    (l_is_timely : K.lookup f_is_timely = some ⟨oc_is_timely, od_is_timely, .func (PySem.W.fnOf "is_timely" "is_timely" (defArgs st_is_timely) (defBody st_is_timely) (defScope st_is_timely) .none kV_is_timely dc_is_timely pm_is_timely an_is_timely cd_is_timely ct_is_timely), sl_is_timely⟩)
    (c_is_timely : PySem.W.codeIn K cd_is_timely "is_timely" = true)
    (k_is_timely : PySem.W.keepIn K (.ref f_is_timely) = true)
    (a_upholds_tasks : PySem.W.nsIn K mainGlobals "upholds_tasks" = some (some (.ref f_upholds_tasks)))
    (l_upholds_tasks : K.lookup f_upholds_tasks = some ⟨oc_upholds_tasks, od_upholds_tasks, .func (PySem.W.fnOf "upholds_tasks" "upholds_tasks" (defArgs st_upholds_tasks) (defBody st_upholds_tasks) (defScope st_upholds_tasks) .none kV_upholds_tasks dc_upholds_tasks pm_upholds_tasks an_upholds_tasks cd_upholds_tasks ct_upholds_tasks), sl_upholds_tasks⟩)
    (c_upholds_tasks : PySem.W.codeIn K cd_upholds_tasks "upholds_tasks" = true)
    (k_upholds_tasks : PySem.W.keepIn K (.ref f_upholds_tasks) = true)
    (a__law_other_kinds : PySem.W.nsIn K mainGlobals "_law_other_kinds" = some (some (.ref f__law_other_kinds)))
    (l__law_other_kinds : K.lookup f__law_other_kinds = some ⟨oc__law_other_kinds, od__law_other_kinds, .func (PySem.W.fnOf "_law_other_kinds" "_law_other_kinds" (defArgs st__law_other_kinds) (defBody st__law_other_kinds) (defScope st__law_other_kinds) .none kV__law_other_kinds dc__law_other_kinds pm__law_other_kinds an__law_other_kinds cd__law_other_kinds ct__law_other_kinds), sl__law_other_kinds⟩)
    (c__law_other_kinds : PySem.W.codeIn K cd__law_other_kinds "_law_other_kinds" = true)
    (k__law_other_kinds : PySem.W.keepIn K (.ref f__law_other_kinds) = true)
    (a__law_same : PySem.W.nsIn K mainGlobals "_law_same" = some (some (.ref f__law_same)))
    (l__law_same : K.lookup f__law_same = some ⟨oc__law_same, od__law_same, .func (PySem.W.fnOf "_law_same" "_law_same" (defArgs st__law_same) (defBody st__law_same) (defScope st__law_same) .none kV__law_same dc__law_same pm__law_same an__law_same cd__law_same ct__law_same), sl__law_same⟩)
    (c__law_same : PySem.W.codeIn K cd__law_same "_law_same" = true)
    (k__law_same : PySem.W.keepIn K (.ref f__law_same) = true)
    (a__law_is_schedule : PySem.W.nsIn K mainGlobals "_law_is_schedule" = some (some (.ref f__law_is_schedule)))
    (l__law_is_schedule : K.lookup f__law_is_schedule = some ⟨oc__law_is_schedule, od__law_is_schedule, .func (PySem.W.fnOf "_law_is_schedule" "_law_is_schedule" (defArgs st__law_is_schedule) (defBody st__law_is_schedule) (defScope st__law_is_schedule) .none kV__law_is_schedule dc__law_is_schedule pm__law_is_schedule an__law_is_schedule cd__law_is_schedule ct__law_is_schedule), sl__law_is_schedule⟩)
    (c__law_is_schedule : PySem.W.codeIn K cd__law_is_schedule "_law_is_schedule" = true)
    (k__law_is_schedule : PySem.W.keepIn K (.ref f__law_is_schedule) = true)
    (a__law_is_hindrance : PySem.W.nsIn K mainGlobals "_law_is_hindrance" = some (some (.ref f__law_is_hindrance)))
    (l__law_is_hindrance : K.lookup f__law_is_hindrance = some ⟨oc__law_is_hindrance, od__law_is_hindrance, .func (PySem.W.fnOf "_law_is_hindrance" "_law_is_hindrance" (defArgs st__law_is_hindrance) (defBody st__law_is_hindrance) (defScope st__law_is_hindrance) .none kV__law_is_hindrance dc__law_is_hindrance pm__law_is_hindrance an__law_is_hindrance cd__law_is_hindrance ct__law_is_hindrance), sl__law_is_hindrance⟩)
    (c__law_is_hindrance : PySem.W.codeIn K cd__law_is_hindrance "_law_is_hindrance" = true)
    (k__law_is_hindrance : PySem.W.keepIn K (.ref f__law_is_hindrance) = true)
    (a_law : PySem.W.nsIn K mainGlobals "law" = some (some (.ref f_law)))
    (l_law : K.lookup f_law = some ⟨oc_law, od_law, .func (PySem.W.fnOf "law" "law" (defArgs st_law) (defBody st_law) (defScope st_law) .none kV_law dc_law pm_law an_law cd_law ct_law), sl_law⟩)
    (c_law : PySem.W.codeIn K cd_law "law" = true)
    (k_law : PySem.W.keepIn K (.ref f_law) = true)
    : ∃ fd : FuncData, (∀ (s : Shared) (v : Value), BindsTo s fd ⟨[v], []⟩ [("script", v)]) ∧ ∀ base : Heap, K.In base → base.Ns mainGlobals mg → FnOk l.prog w K mg base (L2.CX l.prog w) 42 fa fd ["script"] (spL K) := by
  have e := hfa.symm.trans (PySem.W.mg_of X G a_law)
  cases e
  have T : Txt K mg := {
    con_DIGITS := Con0.str X G v_DIGITS,
    con_LAST_DUE := Con0.int X G v_LAST_DUE,
    con_LETTERS := Con0.str X G v_LETTERS,
    con_MOST_DAYS := Con0.int X G v_MOST_DAYS,
    con_MOST_TASKS := Con0.int X G v_MOST_TASKS,
    no_abs := PySem.W.mg_none_of X G n_abs,
    no_all := PySem.W.mg_none_of X G n_all,
    no_bool := PySem.W.mg_none_of X G n_bool,
    no_int := PySem.W.mg_none_of X G n_int,
    no_isinstance := PySem.W.mg_none_of X G n_isinstance,
    no_len := PySem.W.mg_none_of X G n_len,
    no_list := PySem.W.mg_none_of X G n_list,
    no_max := PySem.W.mg_none_of X G n_max,
    no_min := PySem.W.mg_none_of X G n_min,
    no_range := PySem.W.mg_none_of X G n_range,
    no_str := PySem.W.mg_none_of X G n_str,
    no_sum := PySem.W.mg_none_of X G n_sum,
    no_tuple := PySem.W.mg_none_of X G n_tuple,
    no_zip := PySem.W.mg_none_of X G n_zip,
    exc_BadTask := Exc0.mk' X G g_BadTask e_BadTask k_BadTask s_BadTask t_BadTask,
    fn__law_numbers := FnT.mk' X G a__law_numbers l__law_numbers c__law_numbers k__law_numbers fun _ _ _ _ _ _ us hl => match us, hl with | [_, _], _ => rfl,
    fn__law_name := FnT.mk' X G a__law_name l__law_name c__law_name k__law_name fun _ _ _ _ _ _ us hl => match us, hl with | [_], _ => rfl,
    fn__law_pool := FnT.mk' X G a__law_pool l__law_pool c__law_pool k__law_pool fun _ _ _ _ _ _ us hl => match us, hl with | [_], _ => rfl,
    fn__law_earliest := FnT.mk' X G a__law_earliest l__law_earliest c__law_earliest k__law_earliest fun _ _ _ _ _ _ us hl => match us, hl with | [_], _ => rfl,
    fn__law_due := FnT.mk' X G a__law_due l__law_due c__law_due k__law_due fun _ _ _ _ _ _ us hl => match us, hl with | [_, _], _ => rfl,
    fn__law_subject := FnT.mk' X G a__law_subject l__law_subject c__law_subject k__law_subject fun _ _ _ _ _ _ us hl => match us, hl with | [_], _ => rfl,
    fn__law_latest := FnT.mk' X G a__law_latest l__law_latest c__law_latest k__law_latest fun _ _ _ _ _ _ us hl => match us, hl with | [_, _], _ => rfl,
    fn__law_starts_to_try := FnT.mk' X G a__law_starts_to_try l__law_starts_to_try c__law_starts_to_try k__law_starts_to_try fun _ _ _ _ _ _ us hl => match us, hl with | [_, _, _], _ => rfl,
    fn__law_stranger := FnT.mk' X G a__law_stranger l__law_stranger c__law_stranger k__law_stranger fun _ _ _ _ _ _ us hl => match us, hl with | [_], _ => rfl,
    fn__law_walk := FnT.mk' X G a__law_walk l__law_walk c__law_walk k__law_walk fun _ _ _ _ _ _ us hl => match us, hl with | [_, _, _, _], _ => rfl,
    fn__law_names_to_try := FnT.mk' X G a__law_names_to_try l__law_names_to_try c__law_names_to_try k__law_names_to_try fun _ _ _ _ _ _ us hl => match us, hl with | [_, _], _ => rfl,
    fn__law_wrong_shapes := FnT.mk' X G a__law_wrong_shapes l__law_wrong_shapes c__law_wrong_shapes k__law_wrong_shapes fun _ _ _ _ _ _ us hl => match us, hl with | [_, _], _ => rfl,
    fn_is_tuple_of := FnT.mk' X G a_is_tuple_of l_is_tuple_of c_is_tuple_of k_is_tuple_of fun _ _ _ _ _ _ us hl => match us, hl with | [_, _, _], _ => rfl,
    fn_is_whole := FnT.mk' X G a_is_whole l_is_whole c_is_whole k_is_whole fun _ _ _ _ _ _ us hl => match us, hl with | [_], _ => rfl,
    fn_is_whole_in := FnT.mk' X G a_is_whole_in l_is_whole_in c_is_whole_in k_is_whole_in fun _ _ _ _ _ _ us hl => match us, hl with | [_, _, _], _ => rfl,
    fn_is_name := FnT.mk' X G a_is_name l_is_name c_is_name k_is_name fun _ _ _ _ _ _ us hl => match us, hl with | [_], _ => rfl,
    fn_is_names := FnT.mk' X G a_is_names l_is_names c_is_names k_is_names fun _ _ _ _ _ _ us hl => match us, hl with | [_, _, _], _ => rfl,
    fn_is_task := FnT.mk' X G a_is_task l_is_task c_is_task k_is_task fun _ _ _ _ _ _ us hl => match us, hl with | [_], _ => rfl,
    fn_check_tasks := FnT.mk' X G a_check_tasks l_check_tasks c_check_tasks k_check_tasks fun _ _ _ _ _ _ us hl => match us, hl with | [_], _ => rfl,
    fn_same_single := FnT.mk' X G a_same_single l_same_single c_same_single k_same_single fun _ _ _ _ _ _ us hl => match us, hl with | [_, _], _ => rfl,
    fn_same := FnT.mk' X G a_same l_same c_same k_same fun _ _ _ _ _ _ us hl => match us, hl with | [_, _], _ => rfl,
    fn_is_hindrance := FnT.mk' X G a_is_hindrance l_is_hindrance c_is_hindrance k_is_hindrance fun _ _ _ _ _ _ us hl => match us, hl with | [_, _], _ => rfl,
    fn_is_answer := FnT.mk' X G a_is_answer l_is_answer c_is_answer k_is_answer fun _ _ _ _ _ _ us hl => match us, hl with | [_], _ => rfl,
    fn_is_timely := FnT.mk' X G a_is_timely l_is_timely c_is_timely k_is_timely fun _ _ _ _ _ _ us hl => match us, hl with | [_, _], _ => rfl,
    fn_upholds_tasks := FnT.mk' X G a_upholds_tasks l_upholds_tasks c_upholds_tasks k_upholds_tasks fun _ _ _ _ _ _ us hl => match us, hl with | [_, _], _ => rfl,
    fn__law_other_kinds := FnT.mk' X G a__law_other_kinds l__law_other_kinds c__law_other_kinds k__law_other_kinds fun _ _ _ _ _ _ us hl => match us, hl with | [_, _, _], _ => rfl,
    fn__law_same := FnT.mk' X G a__law_same l__law_same c__law_same k__law_same fun _ _ _ _ _ _ us hl => match us, hl with | [_, _], _ => rfl,
    fn__law_is_schedule := FnT.mk' X G a__law_is_schedule l__law_is_schedule c__law_is_schedule k__law_is_schedule fun _ _ _ _ _ _ us hl => match us, hl with | [_, _, _], _ => rfl,
    fn__law_is_hindrance := FnT.mk' X G a__law_is_hindrance l__law_is_hindrance c__law_is_hindrance k__law_is_hindrance fun _ _ _ _ _ _ us hl => match us, hl with | [_, _, _, _], _ => rfl,
    fn_law := FnT.mk' X G a_law l_law c_law k_law fun _ _ _ _ _ _ us hl => match us, hl with | [_], _ => rfl }
  exact ⟨_, fun s v => .of_eq rfl, fun base _ _ => fnL (fnok_law T (fun_mk l_law c_law k_law)) hF⟩
end K68

/-! the size of a plain value -/
namespace Std
open PL PySem
mutual
def psz : D → Option Nat
  | .int _ => some 1
  | .str _ => some 1
  | .bl _ => some 1
  | .non => some 1
  | .tup ds => (pszL ds).map (· + 1)
  | _ => none
def pszL : List D → Option Nat
  | [] => some 0
  | d :: ds => (psz d).bind fun a => (pszL ds).map (a + ·)
end
theorem pszL_app : ∀ (xs ys : List D) (n : Nat), pszL (xs ++ ys) = some n → ∃ a b, pszL xs = some a ∧ pszL ys = some b ∧ n = a + b
  | [], ys, n, h => ⟨0, n, rfl, h, by omega⟩
  | x :: xs, ys, n, h => by
    rw [List.cons_append] at h
    unfold pszL at h
    cases h1 : psz x with
    | none => rw [h1] at h; cases h
    | some c =>
      rw [h1] at h
      cases h2 : pszL (xs ++ ys) with
      | none => rw [h2] at h; cases h
      | some m =>
        rw [h2] at h
        cases h
        obtain ⟨a, b, h3, h4, e⟩ := pszL_app xs ys m h2
        refine ⟨c + a, b, ?_, h4, by show c + m = _; omega⟩
        unfold pszL
        rw [h1, h3]; rfl
theorem pszL_mk : ∀ (xs ys : List D) (a b : Nat), pszL xs = some a → pszL ys = some b → pszL (xs ++ ys) = some (a + b)
  | [], ys, a, b, h, h2 => by cases h; rw [List.nil_append, Nat.zero_add]; exact h2
  | x :: xs, ys, a, b, h, h2 => by
    unfold pszL at h
    cases h1 : psz x with
    | none => rw [h1] at h; cases h
    | some c =>
      rw [h1] at h
      cases h3 : pszL xs with
      | none => rw [h3] at h; cases h
      | some m =>
        rw [h3] at h
        cases h
        rw [List.cons_append]
        unfold pszL
        rw [h1, pszL_mk xs ys m b h3 h2]
        show some (c + (m + b)) = some (c + m + b)
        congr 1; omega
theorem psz_pos {d : D} {n : Nat} (h : psz d = some n) : 1 ≤ n := by
  cases d with
  | int i => cases h; omega
  | str i => cases h; omega
  | bl i => cases h; omega
  | non => cases h; omega
  | tup ds =>
    unfold psz at h
    cases h1 : pszL ds with
    | none => rw [h1] at h; cases h
    | some m => rw [h1] at h; cases h; show 1 ≤ m + 1; omega
  | _ => cases h
theorem pszL_len : ∀ {ds : List D} {n : Nat}, pszL ds = some n → ds.length ≤ n
  | [], n, h => by simp
  | d :: ds, n, h => by
    unfold pszL at h
    cases h1 : psz d with
    | none => rw [h1] at h; cases h
    | some c =>
      rw [h1] at h
      cases h2 : pszL ds with
      | none => rw [h2] at h; cases h
      | some m =>
        rw [h2] at h
        cases h
        have := pszL_len h2
        have := psz_pos h1
        rw [List.length_cons]
        show _ ≤ c + m
        omega
theorem pszL_one {d : D} {n : Nat} (h : pszL [d] = some n) : psz d = some n := by
  unfold pszL at h
  cases h1 : psz d with
  | none => rw [h1] at h; cases h
  | some c => rw [h1] at h; cases h; rfl

@[simp] theorem psz_int (i : Int) : psz (.int i) = some 1 := (rfl)
@[simp] theorem psz_str (i : Str) : psz (.str i) = some 1 := (rfl)
@[simp] theorem psz_bl (i : Bool) : psz (.bl i) = some 1 := (rfl)
@[simp] theorem psz_non : psz .non = some 1 := (rfl)
@[simp] theorem psz_tup (ds : List D) : psz (.tup ds) = (pszL ds).map (· + 1) := by rw [psz]
@[simp] theorem pszL_nil : pszL [] = some 0 := (rfl)
@[simp] theorem pszL_cons (d : D) (ds : List D) : pszL (d :: ds) = (psz d).bind fun a => (pszL ds).map (a + ·) := by rw [pszL]
/-- a list of things of at most c each -/
theorem pszL_le {c : Nat} : ∀ {ds : List D}, (∀ d ∈ ds, ∃ n, psz d = some n ∧ n ≤ c) → ∃ n, pszL ds = some n ∧ n ≤ c * ds.length
  | [], _ => ⟨0, rfl, Nat.zero_le _⟩
  | d :: ds, h => by
    obtain ⟨a, h1, h2⟩ := h d (List.mem_cons_self ..)
    obtain ⟨b, h3, h4⟩ := pszL_le (c := c) (ds := ds) fun e he => h e (List.mem_cons_of_mem _ he)
    refine ⟨a + b, by rw [pszL_cons, h1, h3]; rfl, ?_⟩
    rw [List.length_cons, Nat.mul_add]
    omega
end Std

/-! dicts of names met, sorting of the same things in another order -/
namespace Std
open PL PySem
theorem srtS_congr {a b : List Str} (p : a.Perm b) : srtS a = srtS b :=
  List.Perm.eq_of_pairwise (fun a b _ _ h1 h2 => leT_anti h1 h2) (srtS_le a) (srtS_le b) ((srtS_perm a).trans (p.trans (srtS_perm b).symm))
theorem srtS_len (a : List Str) : (srtS a).length = a.length := (srtS_perm a).length_eq
theorem srtI_len (a : List Int) : (srtI a).length = a.length := (srtI_perm a).length_eq
def seenD (zs : List Str) : List (D × D) := zs.map fun z => (.str z, .bl true)
theorem gGet_seen (z : Str) : ∀ zs : List Str, gGet false (seenD zs) [.inr z] = if z ∈ zs then some (.bl true) else none
  | [] => rfl
  | y :: zs => by
    show gGet false ((.str y, .bl true) :: seenD zs) _ = _
    by_cases h : y = z
    · subst h
      rw [gGet_pos rfl, if_pos (List.mem_cons_self ..)]
    · rw [gGet_neg (by show ¬ some [Sum.inr y] = _; simpa using h), gGet_seen z zs]
      by_cases hz : z ∈ zs
      · rw [if_pos hz, if_pos (List.mem_cons_of_mem _ hz)]
      · rw [if_neg hz, if_neg]
        intro q
        rcases List.mem_cons.mp q with e | q
        · exact h e.symm
        · exact hz q
theorem gPut_seen {z : Str} {zs : List Str} (h : z ∉ zs) : gPut false (seenD zs) [.inr z] (.str z) (.bl true) = seenD (zs ++ [z]) := by
  unfold gPut
  rw [gGet_seen, if_neg h]
  simp [seenD]
theorem seenD_len (zs : List Str) : (seenD zs).length = zs.length := by simp [seenD]
/-- a list reversed by [::-1] -/
theorem map_rev {α : Type} (f : α → D) (xs : List α) : (xs.map f).reverse = xs.reverse.map f := by rw [List.map_reverse]
theorem filter_rev_perm {α : Type} (p : α → Bool) (xs : List α) : (xs.reverse.filter p).Perm (xs.filter p) := (List.reverse_perm xs).filter p
theorem cutG_mid {α : Type} {xs : List α} {lo hi : Int} (h0 : 0 ≤ lo) (h1 : lo ≤ hi) : PL.cutG xs (some lo) (some hi) = (xs.drop lo.toNat).take (hi - lo).toNat := by
  unfold PL.cutG
  simp only [HT.sIx]
  rw [if_neg (by omega), if_neg (by omega)]
  by_cases h : lo.toNat ≤ xs.length
  · rw [show min lo.toNat xs.length = lo.toNat by omega, List.take_eq_take_iff, List.length_drop]
    omega
  · rw [List.drop_eq_nil_of_le (show xs.length ≤ min lo.toNat xs.length by omega), List.drop_eq_nil_of_le (show xs.length ≤ lo.toNat by omega)]
    simp
theorem choose_lt {α : Type} [Nonempty α] {n : Nat} {P : Nat → α → Prop} (h : ∀ k, k < n → ∃ x, P k x) : ∃ f : Nat → α, ∀ k, k < n → P k (f k) := by
  classical
  exact ⟨fun k => if hk : k < n then Classical.choose (h k hk) else Classical.choice inferInstance, fun k hk => by
    show P k (if hk : k < n then Classical.choose (h k hk) else Classical.choice inferInstance)
    rw [dif_pos hk]
    exact Classical.choose_spec (h k hk)⟩
end Std

/-! equality of plain values, membership -/
namespace Std
open PL PySem
def clay (d : D) : Bool := PyData.canLay0 (toPy d)
def clayL (ds : List D) : Bool := PyData.canLayAll0 (toPyL ds)
def dpt (d : D) : Nat := PyData.depth (toPy d)
def dptL (ds : List D) : Nat := PyData.depthAll (toPyL ds)
def eqDL (a b : List D) : Bool := PyData.eqvAll (toPyL a) (toPyL b)
def sOk (z : Str) : Bool := z.cps.all (· < 0x110000)
@[simp] theorem clay_non : clay .non = true := (rfl)
@[simp] theorem clay_bl (b : Bool) : clay (.bl b) = true := (rfl)
@[simp] theorem clay_int (i : Int) : clay (.int i) = true := (rfl)
@[simp] theorem clay_str (z : Str) : clay (.str z) = sOk z := (rfl)
@[simp] theorem clay_tup (ds : List D) : clay (.tup ds) = clayL ds := by unfold clay clayL; simp [toPy, PyData.canLay0]
@[simp] theorem clay_lst (ds : List D) : clay (.lst ds) = clayL ds := by unfold clay clayL; simp [toPy, PyData.canLay0]
@[simp] theorem clayL_nil : clayL [] = true := (rfl)
@[simp] theorem clayL_cons (d : D) (ds : List D) : clayL (d :: ds) = (clay d && clayL ds) := by unfold clay clayL; simp [toPyL, PyData.canLayAll0]
@[simp] theorem dpt_non : dpt .non = 0 := (rfl)
@[simp] theorem dpt_bl (b : Bool) : dpt (.bl b) = 0 := (rfl)
@[simp] theorem dpt_int (i : Int) : dpt (.int i) = 0 := (rfl)
@[simp] theorem dpt_str (z : Str) : dpt (.str z) = 0 := (rfl)
@[simp] theorem dpt_tup (ds : List D) : dpt (.tup ds) = dptL ds + 1 := by unfold dpt dptL; simp [toPy, PyData.depth]
@[simp] theorem dpt_lst (ds : List D) : dpt (.lst ds) = dptL ds + 1 := by unfold dpt dptL; simp [toPy, PyData.depth]
@[simp] theorem dptL_nil : dptL [] = 0 := (rfl)
@[simp] theorem dptL_cons (d : D) (ds : List D) : dptL (d :: ds) = max (dpt d) (dptL ds) := by unfold dpt dptL; simp [toPyL, PyData.depthAll]
theorem shp_is (d : D) : shp d = (clay d && decide (dpt d ≤ 64)) := rfl
theorem clayL_all {ds : List D} : clayL ds = ds.all clay := by
  induction ds with
  | nil => rfl
  | cons d ds ih => rw [clayL_cons, ih]; rfl
theorem dptL_le {c : Nat} {ds : List D} (h : ∀ d ∈ ds, dpt d ≤ c) : dptL ds ≤ c := by
  induction ds with
  | nil => simp
  | cons d ds ih =>
    rw [dptL_cons]
    have h1 := h d (List.mem_cons_self ..)
    have h2 := ih fun e he => h e (List.mem_cons_of_mem _ he)
    omega
@[simp] theorem eq_tt (a b : List D) : eqD (.tup a) (.tup b) = eqDL a b := by unfold eqD eqDL; simp [toPy, PyData.eqv]
@[simp] theorem eq_ll (a b : List D) : eqD (.lst a) (.lst b) = eqDL a b := by unfold eqD eqDL; simp [toPy, PyData.eqv]
@[simp] theorem eq_nil : eqDL [] [] = true := (rfl)
@[simp] theorem eq_cons (x y : D) (xs ys : List D) : eqDL (x :: xs) (y :: ys) = (eqD x y && eqDL xs ys) := by unfold eqD eqDL; simp [toPyL, PyData.eqvAll]
@[simp] theorem eq_nc (y : D) (ys : List D) : eqDL [] (y :: ys) = false := by unfold eqDL; simp [toPyL, PyData.eqvAll]
@[simp] theorem eq_cn (y : D) (ys : List D) : eqDL (y :: ys) [] = false := by unfold eqDL; simp [toPyL, PyData.eqvAll]
theorem eq_ii (i j : Int) : eqD (.int i) (.int j) = decide (i = j) := x_eq_int i j
theorem eq_ss (i j : Str) : eqD (.str i) (.str j) = decide (i = j) := x_eq_str i j
theorem eq_is (i : Int) (j : Str) : eqD (.int i) (.str j) = false := rfl
theorem eq_si (i : Str) (j : Int) : eqD (.str i) (.int j) = false := rfl
theorem eq_bi (i : Bool) (j : Int) : eqD (.bl i) (.int j) = decide ((if i then 1 else 0) = j) := by
  show ((if i = true then (1 : Int) else 0) == j) = _
  cases i <;> simp <;> rfl
theorem eq_ib (j : Int) (i : Bool) : eqD (.int j) (.bl i) = decide (j = (if i then 1 else 0)) := by
  show (j == (if i = true then (1 : Int) else 0)) = _
  cases i <;> simp <;> rfl
theorem eq_bb (i j : Bool) : eqD (.bl i) (.bl j) = decide (i = j) := x_eq_bl i j
/-- == of two lists, or two tuples -/
theorem dEq_ll {a b : List D} (ha : clayL a = true) (hb : clayL b = true) (da : dptL a ≤ 63) (db : dptL b ≤ 63) : dEq (.lst a) (.lst b) = some (eqDL a b) := by
  unfold dEq
  rw [if_neg (by simp [flatX]), if_pos ⟨by rw [shp_is]; simp [ha]; omega, by rw [shp_is]; simp [hb]; omega⟩, eq_ll]
theorem dEq_tt {a b : List D} (ha : clayL a = true) (hb : clayL b = true) (da : dptL a ≤ 63) (db : dptL b ≤ 63) : dEq (.tup a) (.tup b) = some (eqDL a b) := by
  unfold dEq
  rw [if_neg (by simp [flatX]), if_pos ⟨by rw [shp_is]; simp [ha]; omega, by rw [shp_is]; simp [hb]; omega⟩, eq_tt]
theorem inL_is {d : D} {es : List D} (hd : clay d = true) (dd : dpt d ≤ 64) (he : clayL es = true) : inL d es = some (es.any fun e => eqD e d) := by
  unfold inL
  rw [if_pos ⟨by rw [shp_is]; simp [hd, dd], he⟩]
theorem in_lst {d : D} {es : List D} (hd : clay d = true) (dd : dpt d ≤ 64) (he : clayL es = true) : dIn d (.lst es) = some (es.any fun e => eqD e d) := by
  cases d <;> exact inL_is hd dd he
theorem in_tup {d : D} {es : List D} (hd : clay d = true) (dd : dpt d ≤ 64) (he : clayL es = true) : dIn d (.tup es) = some (es.any fun e => eqD e d) := by
  cases d <;> exact inL_is hd dd he
/-! names -/
theorem clay_strs {zs : List Str} (h : ∀ z ∈ zs, sOk z = true) : clayL (zs.map .str) = true := by
  rw [clayL_all, List.all_map, List.all_eq_true]
  exact fun z hz => h z hz
theorem clay_ints (is : List Int) : clayL (is.map .int) = true := by
  rw [clayL_all, List.all_map, List.all_eq_true]
  exact fun z hz => rfl
theorem any_strs (z : Str) (zs : List Str) : ((zs.map D.str).any fun e => eqD e (.str z)) = decide (z ∈ zs) := by
  rw [List.any_map]
  induction zs with
  | nil => simp
  | cons y ys ih =>
    rw [List.any_cons, ih]
    simp only [Function.comp, eq_ss, List.mem_cons]
    by_cases h : z = y
    · simp [h]
    · have : ¬ y = z := fun e => h e.symm
      simp [h, this]
theorem any_ints (z : Int) (zs : List Int) : ((zs.map D.int).any fun e => eqD e (.int z)) = decide (z ∈ zs) := by
  rw [List.any_map]
  induction zs with
  | nil => simp
  | cons y ys ih =>
    rw [List.any_cons, ih]
    simp only [Function.comp, eq_ii, List.mem_cons]
    by_cases h : z = y
    · simp [h]
    · have : ¬ y = z := fun e => h e.symm
      simp [h, this]
theorem in_strsL {z : Str} {zs : List Str} (h : sOk z = true) (hs : ∀ z ∈ zs, sOk z = true) : dIn (.str z) (.lst (zs.map .str)) = some (decide (z ∈ zs)) := by
  rw [in_lst (d := .str z) (show clay (.str z) = true from h) (by simp) (clay_strs hs), any_strs]
theorem in_strsT {z : Str} {zs : List Str} (h : sOk z = true) (hs : ∀ z ∈ zs, sOk z = true) : dIn (.str z) (.tup (zs.map .str)) = some (decide (z ∈ zs)) := by
  rw [in_tup (d := .str z) (show clay (.str z) = true from h) (by simp) (clay_strs hs), any_strs]
theorem in_intsL (i : Int) (is : List Int) : dIn (.int i) (.lst (is.map .int)) = some (decide (i ∈ is)) := by
  rw [in_lst rfl (by simp) (clay_ints is), any_ints]
theorem in_intsT (i : Int) (is : List Int) : dIn (.int i) (.tup (is.map .int)) = some (decide (i ∈ is)) := by
  rw [in_tup rfl (by simp) (clay_ints is), any_ints]
theorem Nam.ok {z : Str} (h : Nam z) : sOk z = true := by
  obtain ⟨c, cs, rfl, h1, h2, h3⟩ := h
  unfold sOk
  rw [List.all_toArray, List.all_eq_true]
  intro d hd
  have hl : ∀ e, letC e = true → e < 0x110000 := fun e he => by
    have : 97 ≤ e ∧ e ≤ 122 := by simpa [letC] using he
    omega
  have hg : ∀ e, digC e = true → e < 0x110000 := fun e he => by
    have : 48 ≤ e ∧ e ≤ 57 := by simpa [digC] using he
    omega
  have : d < 0x110000 := by
    rcases List.mem_cons.mp hd with rfl | hd
    · exact hl _ h1
    · rcases h3 d hd with q | q
      · exact hl _ q
      · exact hg _ q
  simpa using this
end Std

/-! the helpers of one family of laws: numbers, names, pools, sameness -/
namespace FF
open PL PySem Std
def b__law_numbers_c1 : Ex := eB dAbs (aCons (eVar 6) (aNil))
def b__law_numbers_f2 : Sx := sSeq (sSet [] 6 (eC (.int 0))) (sSeq (sSet [] 7 (eC (.int 0))) (sSeq (sIf (t2 dGt (eB dLen1 (aCons (eVar 2) (aNil))) (eC (.int 0))) (sSeq (sSet [] 7 (e2 dMod (eB dInt1 (aCons (eVar 5) (aNil))) (eB dLen1 (aCons (eVar 2) (aNil))))) (sSet [] 6 (e2 dIx (eVar 2) (eVar 7)))) (sNil)) (sIf (t2 dGe (eVar 6) (eC (.int 1000000000000000000))) (sSeq (sEx (eMl [] 3 mAppend (aCons (e2 dMod (eB dInt1 (aCons (eVar 6) (aNil))) (eC (.int 1000000))) (aNil)))) (sAsg [] (e2 dDiv (eVar 6) (eC (.int 1000000))) (gSb 2 (eVar 7)))) (sSeq (sSet [] 4 (e2 dMod (eB dInt1 (aCons (e2 dAdd (e2 dAdd (e2 dAdd (e2 dMul (eVar 4) (eVar 4)) (e2 dMul (eVar 6) (eC (.int 69621)))) (e2 dMul (eVar 5) (eC (.int 48271)))) (eC (.int 11))) (aNil))) (eC (.int 2147483647)))) (sEx (eMl [] 3 mAppend (aCons (e2 dMod (eB dInt1 (aCons (e2 dDiv (eVar 4) (eC (.int 97))) (aNil))) (eC (.int 1000000))) (aNil))))))))
def b__law_numbers : Sx := sSeq (sSet [] 2 (eLc [] [6] (iVal [] (eSl (eVar 0) (pNo) (pSo (eC (.int 63))))) (gNm [] 6) (tsNo) b__law_numbers_c1)) (sSeq (sSet [] 3 (eLst [] (aNil))) (sSeq (sSet [] 4 (eC (.int 88172645))) (sSeq (sFor (iRg1 (aCons (eVar 1) (aNil))) (gNm [] 5) b__law_numbers_f2) (sRet [] (eVar 3)))))
def m__law_numbers : Fn := runF 6 b__law_numbers
def b__law_name_f1 : Sx := sSeq (sSet [] 2 (e2 dAdd (eVar 2) (e2 dIx (eVar 1) (e2 dMod (eB dInt1 (aCons (eVar 3) (aNil))) (eC (.int 36)))))) (sSet [] 3 (e2 dAdd (e2 dDiv (eVar 3) (eC (.int 3))) (e2 dMul (eC (.int 11)) (eVar 5))))
def b__law_name : Sx := sSeq (sSet [] 1 (eC (.str "abcdefghijklmnopqrstuvwxyz0123456789"))) (sSeq (sSet [] 2 (e2 dIx (eVar 1) (e2 dMod (eB dInt1 (aCons (eVar 0) (aNil))) (eC (.int 26))))) (sSeq (sSet [] 3 (e2 dDiv (eVar 0) (eC (.int 26)))) (sSeq (sSet [] 4 (e2 dMod (eB dInt1 (aCons (eVar 3) (aNil))) (eC (.int 8)))) (sSeq (sSet [] 3 (e2 dDiv (eVar 3) (eC (.int 8)))) (sSeq (sFor (iRg1 (aCons (eVar 4) (aNil))) (gNm [] 5) b__law_name_f1) (sRet [] (eVar 2)))))))
def m__law_name : Fn := runF 5 b__law_name
def b__law_pool_f1 : Sx := sSeq (sSet [] 3 (eCall [] 1 m__law_name (aCons (eVar 2) (aNil)))) (sIf (t2 dNotIn (eVar 3) (eVar 1)) (sEx (eMl [] 1 mAppend (aCons (eVar 3) (aNil)))) (sNil))
def b__law_pool : Sx := sSeq (sSet [] 1 (eLst [] (aNil))) (sSeq (sFor (iVal [] (eVar 0)) (gNm [] 2) b__law_pool_f1) (sRet [] (eVar 1)))
def m__law_pool : Fn := runF 3 b__law_pool
def b__law_stranger_f1 : Sx := sIf (t2 dNotIn (e2 dAdd (eVar 1) (eC (.str "0z"))) (eVar 0)) (sRet [] (e2 dAdd (eVar 1) (eC (.str "0z")))) (sNil)
def b__law_stranger : Sx := sSeq (sFor (iVal [] (eC (.str "abcdefghijklmnopqrstuvwxyz"))) (gNm [] 1) b__law_stranger_f1) (sRet [] (eC (.str "zzzzzzzz")))
def m__law_stranger : Fn := runF 1 b__law_stranger
def b__law_same_c1 (S : Fn) : Ex := eCall [] 2 S (aCons (eVar 2) (aCons (eVar 3) (aNil)))
def b__law_same (S : Fn) : Sx := sSeq (sIf (tIsi (isT .tuple) (eVar 1)) (sSeq (sIf (tOr (tNot (tIsi (isT .tuple) (eVar 0))) (t2 dNe (eB dLen1 (aCons (eVar 0) (aNil))) (eB dLen1 (aCons (eVar 1) (aNil))))) (sRet [] (eC (.bl false))) (sNil)) (sRet [] (eB dAll (aCons (eLc [] [2, 3] (iZp [] (aCons (eVar 0) (aCons (eVar 1) (aNil)))) (gTp 2 (gsCons (gNm [] 2) (gsCons (gNm [] 3) (gsNil)))) (tsNo) (b__law_same_c1 S)) (aNil))))) (sNil)) (sSeq (sIf (t2 dIs (eVar 1) (eC .non)) (sRet [] (bE (t2 dIs (eVar 0) (eC .non)))) (sNil)) (sSeq (sIf (tIsi (isT .bool) (eVar 1)) (sRet [] (eAnd (bE (tIsi (isT .bool) (eVar 0))) (bE (t2 dEq (eVar 0) (eVar 1))))) (sNil)) (sSeq (sIf (tIsi (isT .int) (eVar 1)) (sRet [] (eAnd (bE (tIsi (isT .int) (eVar 0))) (eAnd (eNot (bE (tIsi (isT .bool) (eVar 0)))) (bE (t2 dEq (eVar 0) (eVar 1)))))) (sNil)) (sRet [] (eAnd (bE (tIsi (isT .str) (eVar 0))) (bE (t2 dEq (eVar 0) (eVar 1))))))))
def r__law_same : Nat → Fn
  | 0 => fun _ => .stuck
  | n + 1 => runF 2 (b__law_same (r__law_same n))
def m__law_same : Fn := r__law_same 40
/-- n numbers below a million -/
def Nums (n : Nat) (xs : List Int) : Prop := xs.length = n ∧ ∀ x ∈ xs, 0 ≤ x ∧ x < 1000000
theorem Nums.snoc {n : Nat} {xs : List Int} (h : Nums n xs) {x : Int} (h0 : 0 ≤ x) (h1 : x < 1000000) : Nums (n + 1) (xs ++ [x]) :=
  ⟨by rw [List.length_append, h.1]; rfl, fun y hy => by
    rcases List.mem_append.mp hy with z | z
    · exact h.2 y z
    · cases List.mem_singleton.mp z; exact ⟨h0, h1⟩⟩
theorem lg {b : Int} (h : b.natAbs < 18446744073709551616) : b.natAbs.log2 < 9000 := by
  rcases Nat.eq_zero_or_pos b.natAbs with z | z
  · rw [z]; decide
  · exact Nat.lt_of_lt_of_le ((Nat.log2_lt (k := 64) (by omega)).mpr h) (by decide)
theorem divS (a : Int) {b : Int} (h0 : 0 < b) (h : b < 1000000000) : dDiv (.int a) (.int b) = some (.v (.int (a / b))) := by
  rw [x_div, if_pos ⟨h0, lg (by omega)⟩]
theorem numbers_turn (ns rest xs : List Int) (hr : rest.length = ns.length) (hl : ns.length ≤ 63) (hp : ∀ x ∈ rest, 0 ≤ x) (n : Nat) (hn : n ≤ 100000) (hx : Nums n xs) (st : Int) (s0 : 0 ≤ st) (s1 : st < 2147483648) (count : Int) (v6 v7 : Option S) :
    ∃ (rest' : List Int) (x st' : Int) (v6' v7' : Option S), rest'.length = ns.length ∧ (∀ x ∈ rest', 0 ≤ x) ∧ 0 ≤ x ∧ x < 1000000 ∧ 0 ≤ st' ∧ st' < 2147483648 ∧
      b__law_numbers_f2 [some (.v (.scr ns)), some (.v (.int count)), some (.o (.lst (rest.map .int))), some (.o (.lst (xs.map .int))), some (.v (.int st)), some (.v (.int (n : Int))), v6, v7] =
        .ok (.next [some (.v (.scr ns)), some (.v (.int count)), some (.o (.lst (rest'.map .int))), some (.o (.lst ((xs ++ [x]).map .int))), some (.v (.int st')), some (.v (.int (n : Int))), v6', v7']) := by
  have hxl : xs.length < 16777216 := by rw [hx.1]; omega
  have m1 : ∀ c : Int, dMul (.int c) (.int 69621) = some (.v (.int (c * 69621))) := fun c => x_mulR (by decide)
  have m2 : ∀ c : Int, dMul (.int c) (.int 48271) = some (.v (.int (c * 48271))) := fun c => x_mulR (by decide)
  have m3 : dMul (.int st) (.int st) = some (.v (.int (st * st))) := x_mulL (by omega)
  have d1 := fun a => divS a (b := 97) (by decide) (by decide)
  have d2 := fun a => divS a (b := 1000000) (by decide) (by decide)
  by_cases h0 : 0 < rest.length
  · have a0 : 0 ≤ (n : Int) % (rest.length : Int) := Int.emod_nonneg _ (by omega)
    have a1 : (n : Int) % (rest.length : Int) < rest.length := Int.emod_lt_of_pos _ (by omega)
    obtain ⟨c, gc, hc⟩ := atI_ex (xs := rest) a0 a1
    have gc := atI_map' D.int gc
    have c0 := hp c hc
    have ix := ixN_i a0 a1
    generalize hat : (n : Int) % (rest.length : Int) = at' at a0 a1 gc ix
    by_cases hb : (1000000000000000000 : Int) ≤ c
    · refine ⟨rest.set at'.toNat (c / 1000000), c % 1000000, st, some (.v (.int c)), some (.v (.int at')), by simp [hr], fun y hy => ?_, by omega, by omega, s0, s1, ?_⟩
      · rcases List.mem_or_eq_of_mem_set hy with q | rfl
        · exact hp y q
        · exact Int.ediv_nonneg c0 (by omega)
      · simp [-x_mul, -x_div, b__law_numbers_f2, h0, hat, gc, hb, hxl, d2, ix]
    · generalize hS : (st * st + c * 69621 + (n : Int) * 48271 + 11) % 2147483647 = s2
      refine ⟨rest, s2 / 97 % 1000000, s2, some (.v (.int c)), some (.v (.int at')), hr, hp, by omega, by omega, by omega, by omega, ?_⟩
      simp [-x_mul, -x_div, b__law_numbers_f2, h0, hat, gc, hb, hxl, m1, m2, m3, d1, hS]
  · generalize hS : (st * st + 0 * 69621 + (n : Int) * 48271 + 11) % 2147483647 = s2
    refine ⟨rest, s2 / 97 % 1000000, s2, some (.v (.int 0)), some (.v (.int 0)), hr, hp, by omega, by omega, by omega, by omega, ?_⟩
    simp at hS
    simp [-x_mul, -x_div, b__law_numbers_f2, h0, hxl, m1, m2, m3, d1, hS]
theorem s_numbers (ns : List Int) (hl : ns.length ≤ 63) (count : Int) (c0 : 0 ≤ count) (c1 : count ≤ 10000) : ∃ xs : List Int, Nums count.toNat xs ∧ m__law_numbers [.scr ns, .int count] = .ok (.o (.lst (xs.map .int))) := by
  have xc := x_int1' count (by omega)
  have c63 : PL.cutG ns none (some 63) = ns := by rw [cutG_to (by decide)]; exact List.take_of_length_le (by simpa using hl)
  have key : Ev (m__law_numbers [.scr ns, .int count]) (fun s => ∃ xs : List Int, Nums count.toNat xs ∧ s = .o (.lst (xs.map .int))) := by
    simp [m__law_numbers, b__law_numbers, x_eLc, c63]
    refine lm_v (h := D.int) ns (fun x => .int (if x < 0 then -x else x)) rfl (by omega) (fun x hx => ?_) ?_
    · simp [b__law_numbers_c1]
    · simp [xc]
      refine rg_v (fun i ρ => ∃ (rest xs : List Int) (st : Int) (v5 v6 v7 : Option S), rest.length = ns.length ∧ (∀ x ∈ rest, 0 ≤ x) ∧ Nums i xs ∧ 0 ≤ st ∧ st < 2147483648 ∧ ρ = [some (.v (.scr ns)), some (.v (.int count)), some (.o (.lst (rest.map .int))), some (.o (.lst (xs.map .int))), some (.v (.int st)), v5, v6, v7])
        ⟨ns.map fun x => if x < 0 then -x else x, [], 88172645, none, none, none, by simp, fun x hx => ?_, ⟨rfl, by simp⟩, by decide, by decide, by simp⟩ ?_ ?_
      · obtain ⟨y, _, rfl⟩ := List.mem_map.mp hx
        show 0 ≤ if y < 0 then -y else y
        split <;> omega
      · rintro i _ hi ⟨rest, xs, st, v5, v6, v7, hr, hp, hx, s0, s1, rfl⟩
        obtain ⟨rest', x, st', v6', v7', h1, h2, h3, h4, h5, h6, e⟩ := numbers_turn ns rest xs hr hl hp i (by omega) hx st s0 s1 count v6 v7
        simp [e]
        exact ⟨rest', h1, h2, xs ++ [x], hx.snoc h3 h4, st', h5, h6, rfl, by simp, rfl⟩
      · rintro _ ⟨rest, xs, st, v5, v6, v7, hr, hp, hx, s0, s1, rfl⟩
        simp
        exact ⟨xs, hx, rfl⟩
  obtain ⟨s, e, xs, hx, rfl⟩ := key
  exact ⟨xs, hx, e⟩
/-! names -/
def chs : Str := "abcdefghijklmnopqrstuvwxyz0123456789"
theorem chs_at (k : Nat) (h : k < 36) : ∃ c, L2.atI chs.cps.toList (k : Int) = some c ∧ (letC c = true ∨ digC c = true) ∧ (k < 26 → letC c = true) := by
  have key : ∀ k, k < 36 → (match chs.cps.toList[k]? with
    | some c => (letC c || digC c) && (decide (26 ≤ k) || letC c)
    | none => false) = true := by decide +kernel
  have q := key k h
  cases e : chs.cps.toList[k]? with
  | none => rw [e] at q; cases q
  | some c =>
    rw [e] at q
    simp only [Bool.and_eq_true, Bool.or_eq_true, decide_eq_true_eq] at q
    exact ⟨c, atI_ofNat _ _ _ e, q.1, fun hk => q.2.elim (fun z => by omega) id⟩
theorem chs_i (i : Int) (h0 : 0 ≤ i) (h : i < 36) : ∃ c, L2.atI chs.cps.toList i = some c ∧ (letC c = true ∨ digC c = true) ∧ (i < 26 → letC c = true) := by
  obtain ⟨c, h1, h2, h3⟩ := chs_at i.toNat (by omega)
  rw [show ((i.toNat : Nat) : Int) = i by omega] at h1
  exact ⟨c, h1, h2, fun q => h3 (by omega)⟩
theorem s_name (n : Int) (h0 : 0 ≤ n) (h1 : n < 1000000000) : ∃ z, Nam z ∧ m__law_name [.int n] = .ok (.v (.str z)) := by
  have hz : chs.length ≤ 16777216 := by decide +kernel
  have hzz : (Str.ofString "abcdefghijklmnopqrstuvwxyz0123456789") = chs := rfl
  obtain ⟨c, gc, _, lc⟩ := chs_i (n % 26) (by omega) (by omega)
  have d1 := divS n (b := 26) (by decide) (by decide)
  have d2 := divS (n / 26) (b := 8) (by decide) (by decide)
  have xm := x_int1' (n / 26 % 8) (by omega)
  have key : Ev (m__law_name [.int n]) (fun s => ∃ z, Nam z ∧ s = .v (.str z)) := by
    simp only [m__law_name, b__law_name, hzz]
    simp [-x_div, hz, gc, d1, d2, xm]
    refine rg_v (fun i ρ => ∃ (cs : List Nat) (rest : Int) (v5 : Option S), cs.length = i ∧ (∀ d ∈ cs, letC d = true ∨ digC d = true) ∧ 0 ≤ rest ∧ ρ = [some (.v (.int n)), some (.v (.str chs)), some (.v (.str ⟨(c :: cs).toArray⟩)), some (.v (.int rest)), some (.v (.int (n / 26 % 8))), v5]) ⟨[], n / 26 / 8, none, rfl, by simp, by omega, rfl⟩ ?_ ?_
    · rintro i _ hi ⟨cs, rest, v5, hl, hc, r0, rfl⟩
      have hi7 : i < 8 := by omega
      obtain ⟨e, ge, he, _⟩ := chs_i (rest % 36) (by omega) (by omega)
      have d3 := divS rest (b := 3) (by decide) (by decide)
      have m3 : dMul (.int 11) (.int (i : Int)) = some (.v (.int (11 * (i : Int)))) := x_mulL (by decide)
      have ad : dAdd (.str ⟨(c :: cs).toArray⟩) (.str ⟨#[e]⟩) = some (.v (.str ⟨(c :: (cs ++ [e])).toArray⟩)) := by
        have hlen : (Str.mk (c :: cs).toArray).length + (Str.mk #[e]).length ≤ 16777216 := by
          show (c :: cs).length + 1 ≤ 16777216
          rw [List.length_cons]; omega
        rw [x_addZ, if_pos hlen]
        show some (S.v (D.str ⟨(c :: cs).toArray ++ #[e]⟩)) = _
        simp
      simp [-x_div, -x_mul, -x_addZ, b__law_name_f1, hz, ge, ad, d3, m3]
      refine ⟨cs ++ [e], by simp [hl], fun d hd => ?_, by omega, rfl⟩
      rcases List.mem_append.mp hd with q | q
      · exact hc d q
      · cases List.mem_singleton.mp q; exact he
    · rintro _ ⟨cs, rest, v5, hl, hc, r0, rfl⟩
      simp
      exact ⟨c, cs, rfl, lc (by omega), by omega, hc⟩
  obtain ⟨s, e, z, hz, rfl⟩ := key
  exact ⟨z, hz, e⟩
theorem s_pool (xs : List Int) (hx : ∀ x ∈ xs, 0 ≤ x ∧ x < 1000000) (hl : xs.length ≤ 1000) : ∃ zs : List Str, (∀ z ∈ zs, Nam z) ∧ zs.Nodup ∧ zs.length ≤ xs.length ∧ (0 < xs.length → 0 < zs.length) ∧ m__law_pool [.lst (xs.map .int)] = .ok (.o (.lst (zs.map .str))) := by
  have key : Ev (m__law_pool [.lst (xs.map .int)]) (fun s => ∃ zs : List Str, (∀ z ∈ zs, Nam z) ∧ zs.Nodup ∧ zs.length ≤ xs.length ∧ (0 < xs.length → 0 < zs.length) ∧ s = .o (.lst (zs.map .str))) := by
    simp [m__law_pool, b__law_pool]
    refine lp_v (h := D.int) xs (fun i ρ => ∃ (zs : List Str) (v2 v3 : Option S), (∀ z ∈ zs, Nam z) ∧ zs.Nodup ∧ zs.length ≤ i ∧ (0 < i → 0 < zs.length) ∧ ρ = [some (.v (.lst (xs.map .int))), some (.o (.lst (zs.map .str))), v2, v3]) rfl ⟨[], none, none, by simp, by simp, by simp, by simp, rfl⟩ ?_ ?_
    · rintro i x _ hxi ⟨zs, v2, v3, hn, hd, hl', hp, rfl⟩
      have hi := (List.getElem?_eq_some_iff.mp hxi).1
      obtain ⟨x0, x1⟩ := hx x (List.mem_of_getElem? hxi)
      obtain ⟨z, nz, ez⟩ := s_name x x0 (by omega)
      have im := in_strsL nz.ok (fun z hz => (hn z hz).ok)
      have hzl : zs.length < 16777216 := by omega
      by_cases q : z ∈ zs
      · simp [b__law_pool_f1, ez, im, q]
        exact ⟨zs, hn, hd, by omega, by have := List.length_pos_of_mem q; omega, rfl⟩
      · simp [b__law_pool_f1, ez, im, q, hzl]
        refine ⟨zs ++ [z], fun w hw => ?_, ?_, by simp; omega, by simp, by simp⟩
        · rcases List.mem_append.mp hw with r | r
          · exact hn w r
          · cases List.mem_singleton.mp r; exact nz
        · rw [List.nodup_append]
          refine ⟨hd, by simp, fun a ha b hb => ?_⟩
          simp at hb
          subst hb
          intro e
          subst e
          exact q ha
    · rintro _ ⟨zs, v2, v3, hn, hd, hl', hp, rfl⟩
      simp
      exact ⟨zs, hn, hd, hl', hp, rfl⟩
  obtain ⟨s, e, zs, h1, h2, h3, h4, rfl⟩ := key
  exact ⟨zs, h1, h2, h3, h4, e⟩
/-! _law_same of one and the same -/
theorem zpD_self : ∀ es : List D, zpD es es = es.map fun x => .tup [x, x]
  | [] => rfl
  | e :: es => by rw [zpD, zpD_self es]; rfl
theorem same_n : ∀ (n : Nat) (d : D) (k : Nat), psz d = some k → k ≤ 1000000 → dpt d < n → r__law_same n [d, d] = .ok (.v (.bl true))
  | 0, _, _, _, _, h => by omega
  | n + 1, d, k, hk, hs, hd => by
    cases d with
    | int i => simp [r__law_same, b__law_same]
    | str i => simp [r__law_same, b__law_same]
    | bl i => simp [r__law_same, b__law_same]
    | non => simp [r__law_same, b__law_same]
    | tup es =>
      rw [psz_tup] at hk
      cases h4 : pszL es with
      | none => rw [h4] at hk; cases hk
      | some z =>
        rw [h4] at hk
        have h5 : z + 1 = k := Option.some.inj hk
        have hl := pszL_len h4
        rw [dpt_tup] at hd
        have each : ∀ x ∈ es, r__law_same n [x, x] = .ok (.v (.bl true)) := fun x hx => by
          have hz : ∀ (es : List D) (z : Nat), pszL es = some z → x ∈ es → ∃ k, psz x = some k ∧ k ≤ z := fun es => by
            induction es with
            | nil => intro z _ h; cases h
            | cons e es ih =>
              intro z h hm
              rw [pszL_cons] at h
              cases h1 : psz e with
              | none => rw [h1] at h; cases h
              | some a =>
                cases h2 : pszL es with
                | none => rw [h1, h2] at h; cases h
                | some b =>
                  rw [h1, h2] at h
                  have h : a + b = z := Option.some.inj h
                  rcases List.mem_cons.mp hm with rfl | hm
                  · exact ⟨a, h1, by omega⟩
                  · obtain ⟨k, k1, k2⟩ := ih b h2 hm
                    exact ⟨k, k1, by omega⟩
          have hdx : ∀ es : List D, x ∈ es → dpt x ≤ dptL es := fun es => by
            induction es with
            | nil => intro h; cases h
            | cons e es ih =>
              intro hm
              rw [dptL_cons]
              rcases List.mem_cons.mp hm with rfl | hm
              · omega
              · have := ih hm; omega
          obtain ⟨k', k1, k2⟩ := hz es z h4 hx
          exact same_n n x k' k1 (by omega) (by have := hdx es hx; omega)
        simp [r__law_same, b__law_same, x_eLc, zip2, isTupD, zpD_self]
        refine lm_b (h := fun x => D.tup [x, x]) es (fun _ => .bl true) rfl (by omega) (fun x hx => ?_) ?_
        · have := each x hx
          simp [b__law_same_c1, this]
        · have e : blsD (es.map fun _ => D.bl true) = some (es.map fun _ => true) := x_blsM (fun _ => true) es
          simp [e]
    | _ => cases hk
theorem s_same (d : D) {k : Nat} (h : psz d = some k) (hk : k ≤ 1000000) (hd : dpt d ≤ 30) : m__law_same [d, d] = .ok (.v (.bl true)) := same_n 40 d k h hk (by omega)
theorem s_same_bl (b : Bool) : m__law_same [.bl b, .bl b] = .ok (.v (.bl true)) := s_same (.bl b) rfl (by omega) (by simp)
end FF

/-! is_names of the kinds -/
namespace Std
open PL PySem
def b_is_names_f1 : Sx := sSeq (sIf (tOr (tNot (tTru (eCall [] 1 m_is_name (aCons (eVar 4) (aNil))))) (t2 dIn (eVar 4) (eVar 3))) (sRet [] (eC (.bl false))) (sNil)) (sAsg [] (eC (.bl true)) (gSb 3 (eVar 4)))
def b_is_names : Sx := sSeq (sIf (tNot (tTru (eCall [] 3 m_is_tuple_of (aCons (eVar 0) (aCons (eVar 1) (aCons (eVar 2) (aNil))))))) (sRet [] (eC (.bl false))) (sNil)) (sSeq (sSet [] 3 (eDNew false)) (sSeq (sFor (iVal [] (eVar 0)) (gNm [] 4) b_is_names_f1) (sRet [] (eC (.bl true)))))
def m_is_names : Fn := runF 2 b_is_names
/-- items without dicts -/
def Sh (d : D) : Prop := noD d = true ∧ ∀ z, d = .str z → z.length ≤ 16777216
theorem nmD (d : D) (h : Sh d) : m_is_name [d] = .ok (.v (.bl (isNm d))) := by
  cases d <;> first | (cases h.1; done) | exact Std.s_is_nameS _ (h.2 _ rfl) | exact Std.s_is_name0 _ h.1 rfl
theorem nms_step (A B C : D) (p : Str) (hn : Nam p) (zs : List Str) (hz : p ∉ zs) (hl : zs.length < 100) : b_is_names_f1 [some (.v A), some (.v B), some (.v C), some (.o (.dic false (seenD zs))), some (.v (.str p))] = .ok (.next [some (.v A), some (.v B), some (.v C), some (.o (.dic false (seenD (zs ++ [p])))), some (.v (.str p))]) := by
  have hl' : zs.length < 16777216 := by omega
  simp [b_is_names_f1, hn.is, gGet_seen, hz, seenD_len, hl', gPut_seen]
theorem nms_lp (A B C : D) (rest : List D) : ∀ (ps : List Str) (zs : List Str) (v2 : Option S), (∀ p ∈ ps, Nam p) → (zs ++ ps).Nodup → zs.length + ps.length < 100 →
    ∃ v2', lp (gNm [] 4) b_is_names_f1 (ps.map .str ++ rest) [some (.v A), some (.v B), some (.v C), some (.o (.dic false (seenD zs))), v2] = lp (gNm [] 4) b_is_names_f1 rest [some (.v A), some (.v B), some (.v C), some (.o (.dic false (seenD (zs ++ ps)))), v2']
  | [], zs, v2, _, _, _ => ⟨v2, by simp⟩
  | p :: ps, zs, v2, hn, hd, hl => by
    rw [List.length_cons] at hl
    have hz : p ∉ zs := fun q => by
      have := List.nodup_append.mp hd
      exact this.2.2 _ q _ (by simp) rfl
    obtain ⟨v2', ih⟩ := nms_lp A B C rest ps (zs ++ [p]) (some (.v (.str p))) (fun q h => hn q (List.mem_cons_of_mem _ h)) (by simpa using hd) (by simp; omega)
    refine ⟨v2', ?_⟩
    rw [List.map_cons, List.cons_append, x_lp1]
    have e0 : gNm [] 4 (.str p) [some (.v A), some (.v B), some (.v C), some (.o (.dic false (seenD zs))), v2] = some [some (.v A), some (.v B), some (.v C), some (.o (.dic false (seenD zs))), some (.v (.str p))] := by simp
    rw [e0, liftO_some, bind_ok, nms_step A B C p (hn p (List.mem_cons_self ..)) zs hz (by omega), bind_ok, x_aft1, ih]
    simp
/-- names that are different -/
structure Nms (zs : List Str) : Prop where
  nam : ∀ z ∈ zs, Nam z
  nd : zs.Nodup
theorem s_is_names (zs : List Str) (h : Nms zs) (hi : Int) (h1 : (zs.length : Int) ≤ hi) (h2 : zs.length < 100) : m_is_names [.tup (zs.map .str), .int 0, .int hi] = .ok (.v (.bl true)) := by
  obtain ⟨v2, e⟩ := nms_lp (.tup (zs.map .str)) (.int 0) (.int hi) [] zs [] none h.nam (by simpa using h.nd) (by simpa using h2)
  have t := s_is_tuple_of (.tup (zs.map .str)) 0 hi rfl
  simp [seenD, h1] at e t
  simp [m_is_names, b_is_names, t, e]
theorem x_is_names0 (d : D) (hd : noD d = true) (hi : Int) (h : isTup 0 hi d = false) : m_is_names [d, .int 0, .int hi] = .ok (.v (.bl false)) := by
  have t := s_is_tuple_of d 0 hi hd
  rw [h] at t
  simp [m_is_names, b_is_names, t]
theorem x_is_names (zs : List Str) (h : Nms zs) (h2 : zs.length < 100) (d : D) (hd : Sh d) (hb : isNm d = false ∨ ∃ z ∈ zs, d = .str z) (rest : List D) (hi : Int) : m_is_names [.tup (zs.map .str ++ d :: rest), .int 0, .int hi] = .ok (.v (.bl false)) := by
  by_cases hl : isTup 0 hi (.tup (zs.map .str ++ d :: rest)) = true
  · have t := s_is_tuple_of (.tup (zs.map .str ++ d :: rest)) 0 hi rfl
    rw [hl] at t
    obtain ⟨v2, e⟩ := nms_lp (.tup (zs.map .str ++ d :: rest)) (.int 0) (.int hi) (d :: rest) zs [] none h.nam (by simpa using h.nd) (by simpa using h2)
    have e2 : ∃ ρ', b_is_names_f1 [some (.v (.tup (zs.map .str ++ d :: rest))), some (.v (.int 0)), some (.v (.int hi)), some (.o (.dic false (seenD zs))), some (.v d)] = .ok (.ret (.v (.bl false)) ρ') := by
      rcases hb with hb | ⟨z, hz, rfl⟩
      · exact ⟨_, by simp [b_is_names_f1, nmD d hd, hb]; rfl⟩
      · exact ⟨_, by simp [b_is_names_f1, (h.nam z hz).is, gGet_seen, hz]; rfl⟩
    obtain ⟨ρ', e2⟩ := e2
    have e3 : lp (gNm [] 4) b_is_names_f1 (d :: rest) [some (.v (.tup (zs.map .str ++ d :: rest))), some (.v (.int 0)), some (.v (.int hi)), some (.o (.dic false (seenD zs))), v2] = .ok (.ret (.v (.bl false)) ρ') := by
      rw [x_lp1]
      simp [e2]
    have e : lp (gNm [] 4) b_is_names_f1 (zs.map .str ++ d :: rest) [some (.v (.tup (zs.map .str ++ d :: rest))), some (.v (.int 0)), some (.v (.int hi)), some (.o (.dic false [])), none] = .ok (.ret (.v (.bl false)) ρ') := by
      rw [show ([] : List (D × D)) = seenD [] from rfl, e, List.nil_append, e3]
    simp [m_is_names, b_is_names, t, e]
  · exact x_is_names0 _ rfl hi (by simpa using hl)
/-! any bounds -/
theorem not_nodup : ∀ (zs acc : List Str), acc.Nodup → ¬ (acc ++ zs).Nodup → ∃ pre z post, acc ++ zs = pre ++ z :: post ∧ pre.Nodup ∧ z ∈ pre
  | [], acc, h, hn => (hn (by simpa using h)).elim
  | z :: zs, acc, h, hn => by
    by_cases q : z ∈ acc
    · exact ⟨acc, z, zs, rfl, h, q⟩
    · have h2 : (acc ++ [z]).Nodup := by
        rw [List.nodup_append]
        refine ⟨h, by simp, fun a ha b hb => ?_⟩
        simp at hb
        subst hb
        intro e
        subst e
        exact q ha
      obtain ⟨pre, y, post, e, h3, h4⟩ := not_nodup zs (acc ++ [z]) h2 (by simpa using hn)
      exact ⟨pre, y, post, by simpa using e, h3, h4⟩
theorem s_is_namesB (zs : List Str) (h : ∀ z ∈ zs, Nam z) (h2 : zs.length < 100) (lo hi : Int) : m_is_names [.tup (zs.map .str), .int lo, .int hi] = .ok (.v (.bl (decide (lo ≤ zs.length ∧ zs.length ≤ hi) && decide zs.Nodup))) := by
  have t := s_is_tuple_of (.tup (zs.map .str)) lo hi rfl
  by_cases hb : lo ≤ zs.length ∧ zs.length ≤ hi
  · have hb' : isTup lo hi (.tup (zs.map .str)) = true := by simpa using hb
    rw [hb'] at t
    by_cases nd : zs.Nodup
    · obtain ⟨v2, e⟩ := nms_lp (.tup (zs.map .str)) (.int lo) (.int hi) [] zs [] none h (by simpa using nd) (by simpa using h2)
      simp [seenD] at e
      simp [m_is_names, b_is_names, t, e, hb, nd]
    · obtain ⟨pre, z, post, e0, n1, n2⟩ := not_nodup zs [] (by simp) (by simpa using nd)
      rw [List.nil_append] at e0
      subst e0
      have hp : ∀ y ∈ pre, Nam y := fun y hy => h y (by simp [hy])
      have hlp : pre.length < 100 := by rw [List.length_append] at h2; omega
      have hz := hp z n2
      simp only [List.map_append, List.map_cons] at t ⊢
      generalize hA : D.tup (pre.map .str ++ .str z :: post.map .str) = A at t ⊢
      obtain ⟨v2, e⟩ := nms_lp A (.int lo) (.int hi) (.str z :: post.map .str) pre [] none hp (by simpa using n1) (by simpa using hlp)
      have e2 : ∃ ρ', b_is_names_f1 [some (.v A), some (.v (.int lo)), some (.v (.int hi)), some (.o (.dic false (seenD pre))), some (.v (.str z))] = .ok (.ret (.v (.bl false)) ρ') := ⟨_, by simp [b_is_names_f1, hz.is, gGet_seen, n2]; rfl⟩
      obtain ⟨ρ', e2⟩ := e2
      have e3 : lp (gNm [] 4) b_is_names_f1 (.str z :: post.map .str) [some (.v A), some (.v (.int lo)), some (.v (.int hi)), some (.o (.dic false (seenD pre))), v2] = .ok (.ret (.v (.bl false)) ρ') := by
        rw [x_lp1]
        simp [e2]
      have e : lp (gNm [] 4) b_is_names_f1 (pre.map .str ++ .str z :: post.map .str) [some (.v A), some (.v (.int lo)), some (.v (.int hi)), some (.o (.dic false [])), none] = .ok (.ret (.v (.bl false)) ρ') := by
        rw [show ([] : List (D × D)) = seenD [] from rfl, e, List.nil_append, e3]
      subst hA
      simp only [decide_eq_false nd, Bool.and_false]
      simp [m_is_names, b_is_names, t, e]
  · have hb' : isTup lo hi (.tup (zs.map .str)) = false := by
      rw [isTup_tup, List.length_map]
      cases q : (decide (lo ≤ (zs.length : Int)) && decide ((zs.length : Int) ≤ hi)) with
      | false => rfl
      | true => simp at q; exact (hb q).elim
    rw [hb'] at t
    simp [m_is_names, b_is_names, t, hb]
end Std

/-! dicts whose keys are texts, as a list of keys and a function -/
namespace PL
open PySem Std
def updF {α : Type} (f : Str → α) (z : Str) (v : α) : Str → α := fun y => if y = z then v else f y
@[simp] theorem updF_same {α : Type} (f : Str → α) (z : Str) (v : α) : updF f z v z = v := by simp [updF]
theorem updF_ne {α : Type} (f : Str → α) {y z : Str} (v : α) (h : y ≠ z) : updF f z v y = f y := by simp [updF, h]
def mpD (ks : List Str) (f : Str → D) : List (D × D) := ks.map fun z => (.str z, f z)
@[simp] theorem mpD_len (ks : List Str) (f : Str → D) : (mpD ks f).length = ks.length := by simp [mpD]
theorem gGet_mp (f : Str → D) (z : Str) : ∀ ks : List Str, gGet false (mpD ks f) [.inr z] = if z ∈ ks then some (f z) else none
  | [] => by simp [gGet, mpD]
  | k :: ks => by
    have ih := gGet_mp f z ks
    by_cases e : k = z
    · rw [mpD, List.map_cons, gGet_pos (by simp [kOf, keyD, e])]
      simp [e]
    · rw [mpD, List.map_cons, gGet_neg (by simp [kOf, keyD, e])]
      have e' : ¬ z = k := fun q => e q.symm
      simp [e', mpD] at ih ⊢
      exact ih
theorem gPut_mp (f : Str → D) (z : Str) (v : D) (ks : List Str) : gPut false (mpD ks f) [.inr z] (.str z) v = mpD (if z ∈ ks then ks else ks ++ [z]) (updF f z v) := by
  unfold gPut
  rw [gGet_mp]
  by_cases h : z ∈ ks
  · simp only [h, if_true, Option.isSome_some]
    simp only [mpD, List.map_map]
    refine List.map_congr_left fun y _ => ?_
    by_cases e : y = z
    · simp [kOf, keyD, e]
    · simp [kOf, keyD, e, updF_ne f v e]
  · simp only [h, if_false]
    have : mpD ks f = ks.map fun y => (D.str y, updF f z v y) := by
      refine List.map_congr_left fun y hy => ?_
      have ne : y ≠ z := fun q => by subst q; exact h hy
      rw [updF_ne f v ne]
    rw [this]
    simp [mpD]
theorem mpD_congr {ks : List Str} {f g : Str → D} (h : ∀ z ∈ ks, f z = g z) : mpD ks f = mpD ks g := List.map_congr_left fun z hz => by rw [h z hz]
theorem seen_mp (zs : List Str) : seenD zs = mpD zs (fun _ => .bl true) := rfl
end PL

namespace K68
open PL PySem Std
open FF (Nums divS)
theorem s_numbers (ns : List Int) (hl : ns.length ≤ 63) (count : Int) (c0 : 0 ≤ count) (c1 : count ≤ 10000) : ∃ xs : List Int, Nums count.toNat xs ∧ m__law_numbers [.scr ns, .int count] = .ok (.o (.lst (xs.map .int))) := FF.s_numbers ns hl count c0 c1
theorem s_pool (xs : List Int) (hx : ∀ x ∈ xs, 0 ≤ x ∧ x < 1000000) (hl : xs.length ≤ 1000) : ∃ zs : List Str, (∀ z ∈ zs, Nam z) ∧ zs.Nodup ∧ zs.length ≤ xs.length ∧ (0 < xs.length → 0 < zs.length) ∧ m__law_pool [.lst (xs.map .int)] = .ok (.o (.lst (zs.map .str))) := FF.s_pool xs hx hl
theorem s_same_bl (b : Bool) : m__law_same [.bl b, .bl b] = .ok (.v (.bl true)) := FF.s_same_bl b
theorem t_w (d : D) (h : noD d = true) : m_is_whole [d] = .ok (.v (.bl (isW d))) := Std.s_is_whole d h
theorem t_wi (d : D) (lo hi : Int) (h : noD d = true) : m_is_whole_in [d, .int lo, .int hi] = .ok (.v (.bl (isWin lo hi d))) := Std.s_is_whole_in d lo hi h
theorem t_tup (d : D) (lo hi : Int) (h : noD d = true) : m_is_tuple_of [d, .int lo, .int hi] = .ok (.v (.bl (isTup lo hi d))) := Std.s_is_tuple_of d lo hi h
theorem t_nam {z : Str} (h : Nam z) : m_is_name [.str z] = .ok (.v (.bl true)) := h.is
theorem t_names (zs : List Str) (h : Nms zs) (hi : Int) (h1 : (zs.length : Int) ≤ hi) (h2 : zs.length < 100) : m_is_names [.tup (zs.map .str), .int 0, .int hi] = .ok (.v (.bl true)) := Std.s_is_names zs h hi h1 h2
/-! tasks -/
structure Ta where
  n : Str
  d : Int
  a : List Str
def tD (t : Ta) : D := .tup [.str t.n, .int t.d, .tup (t.a.map .str)]
structure Good (ts : List Ta) : Prop where
  nam : ∀ t ∈ ts, Nam t.n
  nd : (ts.map (·.n)).Nodup
  len : ts.length ≤ 16
  day : ∀ t ∈ ts, 1 ≤ t.d ∧ t.d ≤ 100
  aft : ∀ t ∈ ts, t.a.Nodup ∧ t.a.length ≤ 16 ∧ ∀ z ∈ t.a, z ∈ ts.map (·.n)
theorem Good.mem {ts : List Ta} (h : Good ts) {z : Str} (hz : z ∈ ts.map (·.n)) : Nam z := by
  obtain ⟨t, ht, rfl⟩ := List.mem_map.mp hz
  exact h.nam t ht
theorem Good.nms {ts : List Ta} (h : Good ts) {t : Ta} (ht : t ∈ ts) : Nms t.a := ⟨fun z hz => h.mem ((h.aft t ht).2.2 z hz), (h.aft t ht).1⟩
theorem s_task {ts : List Ta} (h : Good ts) {t : Ta} (ht : t ∈ ts) : m_is_task [tD t] = .ok (.v (.bl true)) := by
  have n := t_names t.a (h.nms ht) 16 (by have := (h.aft t ht).2.1; omega) (by have := (h.aft t ht).2.1; omega)
  have w := t_wi (.int t.d) 1 100 rfl
  have hd := h.day t ht
  simp [m_is_task, b_is_task, tD, t_tup, t_nam (h.nam t ht), c_MOST_DAYS, c_MOST_TASKS, n, w, hd]
def sD (ts : List Ta) (due : Int) : D := .tup [.tup (ts.map tD), .int due]
theorem s_check (ts : List Ta) (h : Good ts) (due : Int) (d0 : 0 ≤ due) (d1 : due ≤ 2000) : m_check_tasks [sD ts due] = .ok (.v .non) := by
  have hl : (ts.length : Int) ≤ 16 := by have := h.len; omega
  have hl2 := h.len
  simp [m_check_tasks, b_check_tasks, sD, t_tup, c_MOST_TASKS, hl]
  refine lp_eq ts (h := tD) (J := fun i ρ => ∃ v2, ρ = [some (.v (.tup [.tup (ts.map tD), .int due])), some (.o (.dic false (mpD ((ts.take i).map (·.n)) fun _ => .bl true))), v2, some (.v (.tup (ts.map tD))), some (.v (.int due)), none, none, none, none]) rfl ⟨none, by simp [mpD]⟩ ?_ ?_
  · rintro i t _ hx ⟨v2, rfl⟩
    have ht := List.mem_of_getElem? hx
    have e := s_task h ht
    have hnot : t.n ∉ (ts.take i).map (·.n) := by
      have nd := h.nd
      have e1 : ts.take (i + 1) = ts.take i ++ [t] := by rw [List.take_add_one, hx]; rfl
      have : ((ts.take (i + 1)).map (·.n)).Nodup := by
        rw [List.map_take]
        exact List.Sublist.nodup (List.take_sublist _ _) nd
      rw [e1, List.map_append, List.nodup_append] at this
      intro q
      exact this.2.2 _ q t.n (by simp) rfl
    have e1 : (ts.take (i + 1)).map (·.n) = (ts.take i).map (·.n) ++ [t.n] := by rw [List.take_add_one, hx, List.map_append]; rfl
    have hlen : ((ts.take i).map (·.n)).length < 16777216 := by simp; omega
    rw [e1]
    generalize (ts.take i).map (·.n) = K at hnot hlen
    simp only [b_check_tasks_f1]
    have p := gPut_mp (fun _ => D.bl true) t.n (.bl true) K
    have q : updF (fun _ => D.bl true) t.n (.bl true) = fun _ => D.bl true := by funext y; by_cases e : y = t.n <;> simp [updF, e]
    rw [q] at p
    simp [hnot] at p
    have g := gGet_mp (fun _ => D.bl true) t.n K
    simp [hnot] at g
    simp [e]
    simp [tD, g, p, hlen]
  rintro _ ⟨v2, rfl⟩
  rw [List.take_length]
  simp
  generalize hK : ts.map (·.n) = K
  refine lp_eq ts (h := tD) (J := fun i ρ => ∃ v5 v6 v7 v8, ρ = [some (.v (.tup [.tup (ts.map tD), .int due])), some (.o (.dic false (mpD K fun _ => .bl true))), v2, some (.v (.tup (ts.map tD))), some (.v (.int due)), v5, v6, v7, v8]) rfl ⟨none, none, none, none, rfl⟩ ?_ ?_
  · rintro i t _ hx ⟨v5, v6, v7, v8, rfl⟩
    have ht := List.mem_of_getElem? hx
    have sub := (h.aft t ht).2.2
    rw [hK] at sub
    simp [tD, b_check_tasks_f3]
    refine lp_a t.a (h := D.str) (J := fun i ρ => ∃ v8, ρ = [some (.v (.tup [.tup (ts.map tD), .int due])), some (.o (.dic false (mpD K fun _ => .bl true))), v2, some (.v (.tup (ts.map tD))), some (.v (.int due)), some (.v (.str t.n)), some (.v (.int t.d)), some (.v (.tup (t.a.map .str))), v8]) rfl ⟨v8, rfl⟩ ?_ ?_
    · rintro i z _ hx ⟨v8, rfl⟩
      have hz := sub z (List.mem_of_getElem? hx)
      have g := gGet_mp (fun _ => D.bl true) z K
      simp [hz] at g
      simp [b_check_tasks_f2, g]
    · rintro _ ⟨v8, rfl⟩
      simp
  · rintro _ ⟨v5, v6, v7, v8, rfl⟩
    have w := t_wi (.int due) 0 2000 rfl
    simp [c_LAST_DUE, w, d0, d1]
end K68

namespace K68
open PL PySem Std
open FF (Nums divS)
theorem updF_id (f : Str → D) (z : Str) : updF f z (f z) = f := by funext y; by_cases e : y = z <;> simp [updF, e]
theorem zp_zip : ∀ (ts : List Ta) (ps : List Int), zpD (ts.map tD) (ps.map .int) = (ts.zip ps).map fun q => .tup [tD q.1, .int q.2]
  | [], _ => by simp [zpD]
  | _ :: _, [] => by simp [zpD]
  | t :: ts, p :: ps => by
    have := zp_zip ts ps
    simp [zpD, this]
theorem exists_F : ∀ (qs : List (Ta × Int)), (qs.map (·.1.n)).Nodup → ∃ F : Str → Int, ∀ q ∈ qs, F q.1.n = q.2 + q.1.d
  | [], _ => ⟨fun _ => 0, by simp⟩
  | q :: qs, h => by
    rw [List.map_cons, List.nodup_cons] at h
    obtain ⟨F, hF⟩ := exists_F qs h.2
    refine ⟨fun y => if y = q.1.n then q.2 + q.1.d else F y, fun p hp => ?_⟩
    rcases List.mem_cons.mp hp with e | hp
    · subst e; simp
    · have ne : ¬ p.1.n = q.1.n := fun e => h.1 (by rw [← e]; exact List.mem_map_of_mem hp)
      simp [ne, hF p hp]
def ok1 (due : Int) (q : Ta × Int) : Bool := decide (0 ≤ q.2) && decide (q.2 + q.1.d ≤ due)
def ok2 (F : Str → Int) (q : Ta × Int) : Bool := q.1.a.all fun z => decide (F z ≤ q.2)
def timely (ts : List Ta) (due : Int) (F : Str → Int) (ps : List Int) : Bool := decide (ps.length = ts.length) && ((ts.zip ps).all (ok1 due) && (ts.zip ps).all (ok2 F))
theorem zip_names (ts : List Ta) (ps : List Int) (h : ps.length = ts.length) : (ts.zip ps).map (fun q => q.1.n) = ts.map (·.n) := by
  have : ((ts.zip ps).map (·.1)) = ts := by rw [List.map_fst_zip (by omega)]
  conv => rhs; rw [← this]
  rw [List.map_map]
  rfl
theorem take_snoc {α : Type} {xs : List α} {i : Nat} {x : α} (h : xs[i]? = some x) : xs.take (i + 1) = xs.take i ++ [x] := by rw [List.take_add_one, h]; rfl
theorem not_take {α : Type} (f : α → Str) {xs : List α} (nd : (xs.map f).Nodup) {i : Nat} {x : α} (h : xs[i]? = some x) : f x ∉ (xs.take i).map f := by
  have : ((xs.take (i + 1)).map f).Nodup := by
    rw [List.map_take]
    exact List.Sublist.nodup (List.take_sublist _ _) nd
  rw [take_snoc h, List.map_append, List.nodup_append] at this
  intro q
  exact this.2.2 _ q (f x) (by simp) rfl
theorem s_timely (ts : List Ta) (h : Good ts) (due : Int) (ps : List Int) (F : Str → Int) (hF : ∀ q ∈ ts.zip ps, F q.1.n = q.2 + q.1.d) : m_is_timely [sD ts due, .tup (ps.map .int)] = .ok (.v (.bl (timely ts due F ps))) := by
  have hL := h.len
  have t := t_tup (.tup (ps.map .int)) ts.length ts.length rfl
  by_cases hl : ps.length = ts.length
  · have hB1 : (∀ q ∈ ts.zip ps, ok1 due q = true) → (∀ q ∈ ts.zip ps, ok2 F q = true) → timely ts due F ps = true := fun a b => by
      simp only [timely, hl, Bool.and_eq_true, decide_eq_true_eq, List.all_eq_true]
      exact ⟨trivial, a, b⟩
    have hB2 : ∀ q ∈ ts.zip ps, ok1 due q = false → timely ts due F ps = false := fun q hq e => by
      have : (ts.zip ps).all (ok1 due) = false := List.all_eq_false.mpr ⟨q, hq, by simp [e]⟩
      simp [timely, this]
    have hB3 : ∀ q ∈ ts.zip ps, ok2 F q = false → timely ts due F ps = false := fun q hq e => by
      have : (ts.zip ps).all (ok2 F) = false := List.all_eq_false.mpr ⟨q, hq, by simp [e]⟩
      simp [timely, this]
    generalize timely ts due F ps = B at hB1 hB2 hB3
    have zp : zip2 [.tup (ts.map tD), .tup (ps.map .int)] = some ((ts.zip ps).map fun q => .tup [tD q.1, .int q.2]) := by
      simp [zip2, isTupD, dSeq, zp_zip]
    have nd : ((ts.zip ps).map fun q => q.1.n).Nodup := by rw [zip_names ts ps hl]; exact h.nd
    have nn : (ts.zip ps).map (fun q => q.1.n) = ts.map (·.n) := zip_names ts ps hl
    have hmem : ∀ q ∈ ts.zip ps, q.1 ∈ ts := fun q hq => (List.of_mem_zip (a := q.1) (b := q.2) hq).1
    have hzl : (ts.zip ps).length ≤ 16 := by rw [List.length_zip]; omega
    generalize ts.zip ps = qs at *
    simp [hl] at t
    simp [m_is_timely, b_is_timely, sD, t, zp]
    refine lp_eq qs (h := fun q => D.tup [tD q.1, .int q.2]) (J := fun i ρ => (∀ q ∈ qs.take i, ok1 due q = true) ∧ ∃ v5 v6, ρ = [some (.v (.tup [.tup (ts.map tD), .int due])), some (.v (.tup (ps.map .int))), some (.o (.dic false (mpD ((qs.take i).map fun q => q.1.n) fun z => .int (F z)))), some (.v (.tup (ts.map tD))), some (.v (.int due)), v5, v6, none]) rfl ⟨by simp, none, none, by simp [mpD]⟩ ?_ ?_
    · rintro i q _ hx ⟨hw, v5, v6, rfl⟩
      have hq := List.mem_of_getElem? hx
      have nt := not_take (fun q : Ta × Int => q.1.n) nd hx
      have hlen : ((qs.take i).map fun q => q.1.n).length < 16777216 := by simp; omega
      have fq := hF q hq
      have b2 := hB2 q hq
      rw [take_snoc hx, List.map_append]
      generalize (qs.take i).map (fun q => q.1.n) = K at nt hlen
      have g := gGet_mp (fun z => D.int (F z)) q.1.n K
      have p := gPut_mp (fun z => D.int (F z)) q.1.n (.int (F q.1.n)) K
      rw [updF_id] at p
      simp [nt] at g p
      have w := t_w (.int q.2) rfl
      by_cases c1 : q.2 < 0
      · have := b2 (by simp [ok1]; omega)
        simp [b_is_timely_f1, tD, w, c1, this]
      · by_cases c2 : due < q.2 + q.1.d
        · have := b2 (by simp [ok1]; omega)
          simp [b_is_timely_f1, tD, w, c1, c2, this]
        · rw [fq] at p
          have o : ok1 due q = true := by simp [ok1]; omega
          simp [b_is_timely_f1, tD, w, c1, c2, p, g, hlen]
          intro a b hab
          rcases hab with hab | hab
          · exact hw _ hab
          · cases hab; exact o
    rintro _ ⟨hw, v5, v6, rfl⟩
    rw [List.take_length] at hw ⊢
    simp [zp, nn]
    generalize hK : ts.map (·.n) = K
    refine lp_eq qs (h := fun q => D.tup [tD q.1, .int q.2]) (J := fun i ρ => (∀ q ∈ qs.take i, ok2 F q = true) ∧ ∃ v5 v6 v7, ρ = [some (.v (.tup [.tup (ts.map tD), .int due])), some (.v (.tup (ps.map .int))), some (.o (.dic false (mpD K fun z => .int (F z)))), some (.v (.tup (ts.map tD))), some (.v (.int due)), v5, v6, v7]) rfl ⟨by simp, v5, v6, none, rfl⟩ ?_ ?_
    · rintro i q _ hx ⟨hw2, v5, v6, v7, rfl⟩
      have hq := List.mem_of_getElem? hx
      have sub := (h.aft q.1 (hmem q hq)).2.2
      rw [hK] at sub
      have b3 := hB3 q hq
      simp [tD, b_is_timely_f3]
      refine lp_a q.1.a (h := D.str) (J := fun j ρ => (∀ z ∈ q.1.a.take j, F z ≤ q.2) ∧ ∃ v7, ρ = [some (.v (.tup [.tup (ts.map tD), .int due])), some (.v (.tup (ps.map .int))), some (.o (.dic false (mpD K fun z => .int (F z)))), some (.v (.tup (ts.map tD))), some (.v (.int due)), some (.v (tD q.1)), some (.v (.int q.2)), v7]) rfl ⟨by simp, v7, by simp [tD]⟩ ?_ ?_
      · rintro j z _ hz ⟨hw3, v7, rfl⟩
        have hzm := List.mem_of_getElem? hz
        have hs := sub z hzm
        have g := gGet_mp (fun z => D.int (F z)) z K
        simp [hs] at g
        by_cases c : q.2 < F z
        · have : B = false := b3 (List.all_eq_false.mpr ⟨z, hzm, by simp; omega⟩)
          simp [b_is_timely_f2, g, c, this]
        · simp [b_is_timely_f2, g, c]
          rw [take_snoc hz]
          intro y hy
          rcases List.mem_append.mp hy with hy | hy
          · exact hw3 y hy
          · cases List.mem_singleton.mp hy; omega
      · rintro _ ⟨hw3, v7, rfl⟩
        rw [List.take_length] at hw3
        simp
        have o : ok2 F q = true := by simp only [ok2, List.all_eq_true, decide_eq_true_eq]; exact hw3
        rw [take_snoc hx]
        intro a b hab
        rcases List.mem_append.mp hab with hab | hab
        · exact hw2 _ hab
        · cases List.mem_singleton.mp hab; exact o
    · rintro _ ⟨hw2, v5, v6, v7, rfl⟩
      rw [List.take_length] at hw2
      have := hB1 hw hw2
      simp [this]
  · have e : timely ts due F ps = false := by simp [timely, hl]
    have : isTup ts.length ts.length (.tup (ps.map .int)) = false := by simp; omega
    rw [this] at t
    simp [m_is_timely, b_is_timely, sD, t, e]
/-! the law's own reading -/
theorem s_sched (ts : List Ta) (h : Good ts) (due : Int) (ps : List Int) (F : Str → Int) (hF : ∀ q ∈ ts.zip ps, F q.1.n = q.2 + q.1.d) : m__law_is_schedule [.tup (ts.map tD), .int due, .tup (ps.map .int)] = .ok (.v (.bl (timely ts due F ps))) := by
  have hL := h.len
  by_cases hl : ps.length = ts.length
  · have hB1 : (∀ q ∈ ts.zip ps, ok1 due q = true) → (∀ q ∈ ts.zip ps, ok2 F q = true) → timely ts due F ps = true := fun a b => by
      simp only [timely, hl, Bool.and_eq_true, decide_eq_true_eq, List.all_eq_true]
      exact ⟨trivial, a, b⟩
    have hB2 : ∀ q ∈ ts.zip ps, ok1 due q = false → timely ts due F ps = false := fun q hq e => by
      have : (ts.zip ps).all (ok1 due) = false := List.all_eq_false.mpr ⟨q, hq, by simp [e]⟩
      simp [timely, this]
    have hB3 : ∀ q ∈ ts.zip ps, ok2 F q = false → timely ts due F ps = false := fun q hq e => by
      have : (ts.zip ps).all (ok2 F) = false := List.all_eq_false.mpr ⟨q, hq, by simp [e]⟩
      simp [timely, this]
    generalize timely ts due F ps = B at hB1 hB2 hB3
    have nd : ((ts.zip ps).map fun q => q.1.n).Nodup := by rw [zip_names ts ps hl]; exact h.nd
    have nn : (ts.zip ps).map (fun q => q.1.n) = ts.map (·.n) := zip_names ts ps hl
    have hmem : ∀ q ∈ ts.zip ps, q.1 ∈ ts := fun q hq => (List.of_mem_zip (a := q.1) (b := q.2) hq).1
    have hzl : (ts.zip ps).length = ts.length := by rw [List.length_zip]; omega
    have g1 : ∀ (i : Nat) (q : Ta × Int), (ts.zip ps)[i]? = some q → L2.atI (ts.map tD) (i : Int) = some (tD q.1) ∧ L2.atI (ps.map D.int) (i : Int) = some (D.int q.2) := fun i q hx => by
      rw [List.getElem?_zip_eq_some] at hx
      exact ⟨atI_ofNat _ _ _ (by rw [List.getElem?_map, hx.1]; rfl), atI_ofNat _ _ _ (by rw [List.getElem?_map, hx.2]; rfl)⟩
    have x1 := x_int1' (ts.length : Int) (by omega)
    generalize ts.zip ps = qs at *
    rw [← hzl] at x1
    simp [m__law_is_schedule, b__law_is_schedule, hl, ← hzl, x1]
    refine rg_eq (J := fun i ρ => (∀ q ∈ qs.take i, ok1 due q = true) ∧ ∃ v4, ρ = [some (.v (.tup (ts.map tD))), some (.v (.int due)), some (.v (.tup (ps.map .int))), some (.o (.dic false (mpD ((qs.take i).map fun q => q.1.n) fun z => .int (F z)))), v4, none]) ⟨by simp, none, by simp [mpD]⟩ ?_ ?_
    · rintro i _ hi ⟨hw, v4, rfl⟩
      obtain ⟨q, hx⟩ : ∃ q, qs[i]? = some q := ⟨qs[i], List.getElem?_eq_getElem hi⟩
      have hq := List.mem_of_getElem? hx
      obtain ⟨a1, a2⟩ := g1 i q hx
      have nt := not_take (fun q : Ta × Int => q.1.n) nd hx
      have hlen : ((qs.take i).map fun q => q.1.n).length < 16777216 := by simp; omega
      have fq := hF q hq
      have b2 := hB2 q hq
      rw [take_snoc hx, List.map_append]
      generalize (qs.take i).map (fun q => q.1.n) = K at nt hlen
      have p := gPut_mp (fun z => D.int (F z)) q.1.n (.int (F q.1.n)) K
      rw [updF_id] at p
      simp [nt] at p
      rw [fq] at p
      simp only [tD] at a1
      by_cases c1 : q.2 < 0
      · have := b2 (by simp [ok1]; omega)
        simp [b__law_is_schedule_f1, a1, a2, p, hlen, c1, this]
      · by_cases c2 : due < q.2 + q.1.d
        · have := b2 (by simp [ok1]; omega)
          simp [b__law_is_schedule_f1, a1, a2, p, hlen, c1, c2, this]
        · have o : ok1 due q = true := by simp [ok1]; omega
          simp [b__law_is_schedule_f1, a1, a2, p, hlen, c1, c2]
          intro a b hab
          rcases hab with hab | hab
          · exact hw _ hab
          · cases hab; exact o
    rintro _ ⟨hw, v4, rfl⟩
    rw [List.take_length] at hw ⊢
    simp [nn, hl, ← hzl, x1]
    generalize hK : ts.map (·.n) = K
    refine rg_eq (J := fun i ρ => (∀ q ∈ qs.take i, ok2 F q = true) ∧ ∃ v4, ρ = [some (.v (.tup (ts.map tD))), some (.v (.int due)), some (.v (.tup (ps.map .int))), some (.o (.dic false (mpD K fun z => .int (F z)))), v4, none]) ⟨by simp, v4, rfl⟩ ?_ ?_
    · rintro i _ hi ⟨hw2, v4, rfl⟩
      obtain ⟨q, hx⟩ : ∃ q, qs[i]? = some q := ⟨qs[i], List.getElem?_eq_getElem hi⟩
      have hq := List.mem_of_getElem? hx
      obtain ⟨a1, a2⟩ := g1 i q hx
      have sub := (h.aft q.1 (hmem q hq)).2.2
      have al := (h.aft q.1 (hmem q hq)).2.1
      rw [hK] at sub
      have b3 := hB3 q hq
      simp only [tD] at a1
      simp [b__law_is_schedule_f3, a1, x_eLc]
      refine lc_a q.1.a (fun z => decide (q.2 < F z)) D.str (h := D.str) rfl (by omega) (fun z hz => ?_) ?_
      · have hs := sub z hz
        have g := gGet_mp (fun z => D.int (F z)) z K
        simp [hs] at g
        by_cases c : q.2 < F z <;> simp [g, a2, c, b__law_is_schedule_c2]
      · by_cases c : ok2 F q = true
        · have e : q.1.a.filter (fun z => decide (q.2 < F z)) = [] := by
            rw [List.filter_eq_nil_iff]
            intro z hz
            simp only [ok2, List.all_eq_true, decide_eq_true_eq] at c
            have := c z hz
            simp; omega
          rw [e]
          simp
          rw [take_snoc hx]
          intro a b hab
          rcases List.mem_append.mp hab with hab | hab
          · exact hw2 _ hab
          · cases List.mem_singleton.mp hab; exact c
        · have c' : ok2 F q = false := by simpa using c
          have hB := b3 c'
          obtain ⟨z, hz, hzz⟩ := List.all_eq_false.mp c'
          have pos : 0 < (q.1.a.filter fun z => decide (q.2 < F z)).length := by
            refine List.length_pos_of_mem (a := z) ?_
            rw [List.mem_filter]
            exact ⟨hz, by simp at hzz ⊢; omega⟩
          generalize q.1.a.filter (fun z => decide (q.2 < F z)) = L at pos
          simp [pos, hB]
    · rintro _ ⟨hw2, v4, rfl⟩
      rw [List.take_length] at hw2
      have := hB1 hw hw2
      simp [this]
  · have e : timely ts due F ps = false := by simp [timely, hl]
    have hl' : ¬ (ps.length : Int) = (ts.length : Int) := by omega
    simp [m__law_is_schedule, b__law_is_schedule, hl', e]
end K68

namespace K68
open PL PySem Std
open FF (Nums divS)
theorem x_wh {t : Tx} {f : Sx} {ρ : Rho} {n : Nat} (h : 0 < n) : sWh t f n ρ = (t ρ >>= fun p => if p.1 = true then f p.2 >>= aft (sWh t f (n - 1)) else .ok (.next p.2)) := by
  cases n with
  | zero => omega
  | succ n => rfl
theorem single_str (x y : Str) : m_same_single [.str x, .str y] = .ok (.v (.bl (decide (x = y)))) := by
  simp [m_same_single, b_same_single]
theorem tr1 (d : D) (ds : List D) : dTru (.lst (d :: ds)) = some true := rfl
theorem tr0 : dTru (.lst []) = some false := rfl
theorem pop1 (d : D) : mPop [d] [] = some (d, []) := by have := x_pop [] d; simpa using this
theorem same_str (x y : Str) : m_same [.str x, .str y] = .ok (.v (.bl (decide (x = y)))) := by
  simp only [m_same, b_same]
  generalize hN : (1000000000 : Nat) = N
  have h0 : 0 < N := by omega
  have h1 : 0 < N - 1 := by omega
  have e := single_str x y
  by_cases h : x = y
  · simp [h] at e
    simp [x_wh h0, b_same_t2, b_same_w2, h, e, x_wh h1, tr1, tr0, pop1]
  · simp [h] at e
    simp [x_wh h0, b_same_t2, b_same_w2, h, e, x_wh h1, tr1, tr0, pop1]
theorem exists_T : ∀ (ts : List Ta), (ts.map (·.n)).Nodup → ∃ T : Str → Ta, ∀ t ∈ ts, T t.n = t
  | [], _ => ⟨fun _ => ⟨"", 0, []⟩, by simp⟩
  | t :: ts, h => by
    rw [List.map_cons, List.nodup_cons] at h
    obtain ⟨T, hT⟩ := exists_T ts h.2
    refine ⟨fun y => if y = t.n then t else T y, fun p hp => ?_⟩
    rcases List.mem_cons.mp hp with e | hp
    · subst e; simp
    · have ne : ¬ p.n = t.n := fun e => h.1 (by rw [← e]; exact List.mem_map_of_mem hp)
      simp [ne, hT p hp]
theorem pigeon {zs K : List Str} (hz : zs.Nodup) (hK : K.Nodup) (hs : ∀ z ∈ zs, z ∈ K) : zs.length ≤ K.length := by
  have p : zs.Perm (K.filter fun z => decide (z ∈ zs)) := by
    rw [List.perm_ext_iff_of_nodup hz (List.Nodup.sublist List.filter_sublist hK)]
    intro a
    simp only [List.mem_filter, decide_eq_true_eq]
    exact ⟨fun h => ⟨hs a h, h⟩, fun h => h.2⟩
  rw [p.length_eq]
  exact List.length_filter_le ..
def chain (T : Str → Ta) (zs : List Str) (i : Nat) : Bool := decide (i = 0 ∨ zs.getD (i - 1) "" ∈ (T (zs.getD i "")).a)
def fin (T : Str → Ta) (due : Int) (ring : Bool) (zs : List Str) : Bool := if ring then decide (zs.getD (zs.length - 1) "" ∈ (T (zs.getD 0 "")).a) else decide (due < (zs.map fun z => (T z).d).sum)
def hind (K : List Str) (T : Str → Ta) (due : Int) (ring : Bool) (zs : List Str) : Bool :=
  decide (0 < zs.length) && (decide zs.Nodup && (zs.all (fun z => decide (z ∈ K)) && ((List.range zs.length).all (chain T zs) && fin T due ring zs)))
def wS (r : Bool) : Str := if r then "ring" else "late"
structure Cond (K : List Str) (T : Str → Ta) (due : Int) (ring : Bool) (zs : List Str) (B : Bool) : Prop where
  yes : 0 < zs.length → zs.Nodup → (∀ z ∈ zs, z ∈ K) → (∀ i, i < zs.length → chain T zs i = true) → B = fin T due ring zs
  n0 : ¬ 0 < zs.length → B = false
  n1 : ¬ zs.Nodup → B = false
  n2 : ∀ z ∈ zs, z ∉ K → B = false
  n3 : ∀ i, i < zs.length → chain T zs i = false → B = false
theorem hind_cond (K : List Str) (T : Str → Ta) (due : Int) (ring : Bool) (zs : List Str) : Cond K T due ring zs (hind K T due ring zs) := by
  refine ⟨fun a b c d => ?_, fun a => ?_, fun a => ?_, fun z hz h => ?_, fun i hi h => ?_⟩
  · have e1 : zs.all (fun z => decide (z ∈ K)) = true := by simpa using c
    have e2 : (List.range zs.length).all (chain T zs) = true := by simp only [List.all_eq_true, List.mem_range]; exact d
    simp only [hind, a, b, e1, e2, decide_true, Bool.true_and]
  · simp only [hind, a, decide_false, Bool.false_and]
  · simp only [hind, a, decide_false, Bool.false_and, Bool.and_false]
  · have e1 : zs.all (fun z => decide (z ∈ K)) = false := List.all_eq_false.mpr ⟨z, hz, by simp [h]⟩
    simp only [hind, e1, Bool.false_and, Bool.and_false]
  · have e2 : (List.range zs.length).all (chain T zs) = false := List.all_eq_false.mpr ⟨i, by simpa using hi, by simp [h]⟩
    simp only [hind, e2, Bool.false_and, Bool.and_false]
theorem at_str (zs : List Str) (k : Nat) (hk : k < zs.length) : L2.atI (zs.map D.str) (k : Int) = some (.str (zs.getD k "")) := by
  have : (zs.map D.str)[k]? = some (.str (zs.getD k "")) := by simp [hk, List.getD_eq_getElem?_getD]
  exact atI_ofNat _ _ _ this
theorem getD_mem (zs : List Str) (k : Nat) (hk : k < zs.length) : zs.getD k "" ∈ zs := by
  rw [List.getD_eq_getElem?_getD, List.getElem?_eq_getElem hk]; exact List.getElem_mem hk
theorem at_last (zs : List Str) (h : 0 < zs.length) : L2.atI (zs.map D.str) (-1) = some (.str (zs.getD (zs.length - 1) "")) := by
  have := at_str zs (zs.length - 1) (by omega)
  rw [← this]
  unfold L2.atI L2.ixN
  rw [List.length_map, if_neg (by decide), if_pos (by omega), if_pos (by omega), if_pos (by omega)]
  congr 1
  congr 1
  omega
theorem chain_0 (T : Str → Ta) (zs : List Str) : chain T zs 0 = true := by simp [chain]
theorem days (T : Str → Ta) (zs : List Str) : intsD (zs.map fun z => .int (T z).d) = some (zs.map fun z => (T z).d) := by
  have := intsD_map (zs.map fun z => (T z).d)
  rw [List.map_map] at this
  exact this
def rowsD (K : List Str) (T : Str → Ta) : D := .dic false (mpD K fun z => tD (T z))
/-- the part of is_hindrance behind the checks -/
def b_H : Sx := sSeq (sSet [] 2 (eDc [] [9] (iVal [] (eVar 5)) (gNm [] 9) (tsNo) b_is_hindrance_k1 b_is_hindrance_c1)) (sSeq (sFor (iVal [] (eVar 8)) (gNm [] 3) b_is_hindrance_f2) (sSeq (sFor (iRg2 (aCons (eC (.int 1)) (aCons (eB dLen1 (aCons (eVar 8) (aNil))) (aNil)))) (gNm [] 4) b_is_hindrance_f3) (sSeq (sIf (t2 dEq (eVar 7) (eC (.str "ring"))) (sRet [] (bE (t2 dIn (e2 dIx (eVar 8) (e1 dNeg (eC (.int 1)))) (e2 dIx (e2 dIx (eVar 2) (e2 dIx (eVar 8) (eC (.int 0)))) (eC (.int 2)))))) (sNil)) (sRet [] (bE (t2 dGt (eB dSum (aCons (eLc [] [3] (iVal [] (eVar 8)) (gNm [] 3) (tsNo) b_is_hindrance_c4) (aNil))) (eVar 6)))))))
theorem s_H (ts : List Ta) (h : Good ts) (due : Int) (T : Str → Ta) (hT : ∀ t ∈ ts, T t.n = t) (ring : Bool) (zs : List Str) (hl : zs.length ≤ 16) (h0 : 0 < zs.length) (nd : zs.Nodup) (B : Bool) (C : Cond (ts.map (·.n)) T due ring zs B) (hok : ∀ z ∈ zs, Nam z) (P0 P1 : D) :
    Ev (b_H [some (.v P0), some (.v P1), none, none, none, some (.v (.tup (ts.map tD))), some (.v (.int due)), some (.v (.str (wS ring))), some (.v (.tup (zs.map .str))), none]) (fun r => ∃ ρ, r = .ret (.v (.bl B)) ρ) := by
  have hL := h.len
  have sr : decide (wS ring = "ring") = ring := by cases ring <;> decide +kernel
  have ed : (ts.map fun t => (D.str t.n, tD t)) = mpD (ts.map (·.n)) fun z => tD (T z) := by
    rw [mpD, List.map_map]
    refine List.map_congr_left fun t ht => ?_
    simp [hT t ht]
  simp [b_H]
  refine dc_P (P := (Ev · _)) ts (fun t => t.n) tD (h := tD) rfl (by omega) h.nd ?_ ?_
  · intro t _
    simp [DTurn, b_is_hindrance_k1, b_is_hindrance_c1]
    simp [tD]
  rw [ed]
  have aft : ∀ z ∈ ts.map (·.n), Nms (T z).a ∧ (T z).a.length ≤ 16 := fun z hz => by
    obtain ⟨t, ht, rfl⟩ := List.mem_map.mp hz
    rw [hT t ht]
    exact ⟨h.nms ht, (h.aft t ht).2.1⟩
  generalize ts.map (·.n) = K at C aft
  have gg : ∀ z, z ∈ K → gGet false (mpD K fun z => tD (T z)) [.inr z] = some (.tup [.str (T z).n, .int (T z).d, .tup ((T z).a.map .str)]) := fun z hz => by have := gGet_mp (fun z => tD (T z)) z K; rw [if_pos hz] at this; exact this
  have gn := fun z (hz : z ∉ K) => by have := gGet_mp (fun z => tD (T z)) z K; simp [hz] at this; exact this
  have inA : ∀ z ∈ K, ∀ y, sOk y = true → dIn (.str y) (.tup ((T z).a.map .str)) = some (decide (y ∈ (T z).a)) := fun z hz y hy => in_strsT hy (fun x hx => Nam.ok ((aft z hz).1.nam x hx))
  simp
  refine lp_v zs (h := D.str) (J := fun i ρ => (∀ z ∈ zs.take i, z ∈ K) ∧ ∃ v3, ρ = [some (.v P0), some (.v P1), some (.o (rowsD K T)), v3, none, some (.v (.tup (ts.map tD))), some (.v (.int due)), some (.v (.str (wS ring))), some (.v (.tup (zs.map .str))), none]) rfl ⟨by simp, none, rfl⟩ ?_ ?_
  · rintro i z _ hx ⟨hw, v3, rfl⟩
    have hm := List.mem_of_getElem? hx
    by_cases q : z ∈ K
    · simp [b_is_hindrance_f2, rowsD, gg z q]
      rw [take_snoc hx]
      intro y hy
      rcases List.mem_append.mp hy with hy | hy
      · exact hw y hy
      · cases List.mem_singleton.mp hy; exact q
    · have := C.n2 z hm q
      simp [b_is_hindrance_f2, rowsD, gn z q, this]
  rintro _ ⟨hw, v3, rfl⟩
  rw [List.take_length] at hw
  have x2 : int2 [.int 1, .int (zs.length : Int)] = some (1, (zs.length : Int)) := by rw [x_int2 _ _ (by omega)]
  simp [x2]
  have pair : ∀ i : Nat, i + 1 < zs.length → L2.atI (zs.map D.str) (1 + (i : Int) - 1) = some (.str (zs.getD i "")) ∧ L2.atI (zs.map D.str) (1 + (i : Int)) = some (.str (zs.getD (i + 1) "")) := fun i hi => by
    refine ⟨by rw [show 1 + (i : Int) - 1 = (i : Int) by omega]; exact at_str zs i (by omega), ?_⟩
    have := at_str zs (i + 1) hi
    rwa [show (((i + 1 : Nat)) : Int) = 1 + (i : Int) by omega] at this
  refine rg_v (J := fun i ρ => (∀ k, k ≤ i → chain T zs k = true) ∧ ∃ v4, ρ = [some (.v P0), some (.v P1), some (.o (rowsD K T)), v3, v4, some (.v (.tup (ts.map tD))), some (.v (.int due)), some (.v (.str (wS ring))), some (.v (.tup (zs.map .str))), none]) ⟨fun k hk => by rw [show k = 0 by omega]; exact chain_0 T zs, none, rfl⟩ ?_ ?_
  · rintro i _ hi ⟨hc, v4, rfl⟩
    obtain ⟨p1, p2⟩ := pair i (by omega)
    have m1 := getD_mem zs i (by omega)
    have m2 := getD_mem zs (i + 1) (by omega)
    have n3 := C.n3 (i + 1) (by omega)
    have ch : chain T zs (i + 1) = decide (zs.getD i "" ∈ (T (zs.getD (i + 1) "")).a) := by simp [chain]
    rw [ch] at n3
    have step : zs.getD i "" ∈ (T (zs.getD (i + 1) "")).a → ∀ k, k ≤ i + 1 → chain T zs k = true := fun q k hk => by
      by_cases e : k = i + 1
      · subst e; rw [ch]; simpa using q
      · exact hc k (by omega)
    clear ch
    generalize zs.getD i "" = y at *
    generalize zs.getD (i + 1) "" = z at *
    have g := gg z (hw z m2)
    have ia := inA z (hw z m2) y (Nam.ok (hok y m1))
    by_cases q : y ∈ (T z).a
    · simp [b_is_hindrance_f3, rowsD, p1, p2, g, ia, q]
      exact step q
    · have := n3 (by simpa using q)
      simp [b_is_hindrance_f3, rowsD, p1, p2, g, ia, q, this]
  rintro _ ⟨hc, v4, rfl⟩
  have hB := C.yes h0 nd hw (fun i hi => hc i (by omega))
  have l1 := at_last zs h0
  have l2 := at_str zs 0 h0
  have m1 := getD_mem zs (zs.length - 1) (by omega)
  have m2 := getD_mem zs 0 h0
  cases ring
  · have e : ¬ (wS false = "ring") := by decide +kernel
    simp [e, x_eLc]
    refine lm_v zs (fun z => .int (T z).d) (h := D.str) rfl (by omega) (fun z hz => ?_) ?_
    · have g := gg z (hw z hz)
      simp [rowsD, b_is_hindrance_c4, g]
    · simp [days]
      rw [hB]
      simp [fin]
  · have e : wS true = "ring" := by decide +kernel
    rw [hB]
    simp only [fin, if_true]
    generalize zs.getD (zs.length - 1) "" = y at *
    have l2 : L2.atI (zs.map D.str) 0 = some (.str (zs.getD 0 "")) := l2
    generalize zs.getD 0 "" = z at *
    have g := gg z (hw z m2)
    have ia := inA z (hw z m2) y (Nam.ok (hok y m1))
    simp [e, rowsD, l1, l2, g, ia]
theorem s_hind (ts : List Ta) (h : Good ts) (due : Int) (T : Str → Ta) (hT : ∀ t ∈ ts, T t.n = t) (ring : Bool) (zs : List Str) (hz : ∀ z ∈ zs, Nam z) (hl : zs.length < 100) :
    m_is_hindrance [sD ts due, .tup [.str (wS ring), .tup (zs.map .str)]] = .ok (.v (.bl (hind (ts.map (·.n)) T due ring zs))) := by
  have C := hind_cond (ts.map (·.n)) T due ring zs
  generalize hind (ts.map (·.n)) T due ring zs = B at C
  have hL := h.len
  have nb := Std.s_is_namesB zs hz hl 1 16
  have nb : m_is_names [.tup (zs.map .str), .int 1, .int 16] = .ok (.v (.bl (decide ((1 : Int) ≤ zs.length ∧ (zs.length : Int) ≤ 16) && decide zs.Nodup))) := nb
  have s1 := same_str (wS ring) "ring"
  have s2 := same_str (wS ring) "late"
  have hw : (wS ring = "ring" ∨ wS ring = "late") := by cases ring <;> simp [wS]
  have t22 := t_tup (.tup [.str (wS ring), .tup (zs.map .str)]) 2 2 rfl
  have sr : decide (wS ring = "ring") = ring := by cases ring <;> decide +kernel
  by_cases nm : (1 : Int) ≤ zs.length ∧ (zs.length : Int) ≤ 16 ∧ zs.Nodup
  · have hn : (decide ((1 : Int) ≤ zs.length ∧ (zs.length : Int) ≤ 16) && decide zs.Nodup) = true := by simp [nm]
    rw [hn] at nb
    obtain ⟨r, e, ρ, rfl⟩ := s_H ts h due T hT ring zs (by omega) (by omega) nm.2.2 B C hz (sD ts due) (.tup [.str (wS ring), .tup (zs.map .str)])
    simp only [m_is_hindrance, b_is_hindrance]
    rw [← b_H]
    generalize b_H = TT at e
    simp at t22
    simp only [sD] at e
    rcases hw with hw | hw
    · rw [hw] at s1 t22 e ⊢
      simp at s1
      simp [sD, t22, s1, c_MOST_TASKS, nb, e]
    · rw [hw] at s1 s2 t22 e ⊢
      have ne : ¬ (("late" : Str) = "ring") := by decide +kernel
      simp [ne] at s1 s2
      simp [sD, t22, s1, s2, c_MOST_TASKS, nb, e]
  · have hB : B = false := by
      by_cases c0 : 0 < zs.length
      · by_cases c1 : zs.Nodup
        · by_cases c2 : ∀ z ∈ zs, z ∈ ts.map (·.n)
          · have := pigeon c1 h.nd c2
            rw [List.length_map] at this
            exact (nm ⟨by omega, by omega, c1⟩).elim
          · have : ∃ z ∈ zs, z ∉ ts.map (·.n) := by
              by_cases q : ∃ z ∈ zs, z ∉ ts.map (·.n)
              · exact q
              · exact (c2 fun z hz => by
                  by_cases r : z ∈ ts.map (·.n)
                  · exact r
                  · exact (q ⟨z, hz, r⟩).elim).elim
            obtain ⟨z, hz, hn⟩ := this
            exact C.n2 z hz hn
        · exact C.n1 c1
      · exact C.n0 c0
    have e : (decide ((1 : Int) ≤ zs.length ∧ (zs.length : Int) ≤ 16) && decide zs.Nodup) = false := by
      rw [Bool.and_eq_false_iff]
      by_cases q : zs.Nodup
      · exact .inl (by simp only [decide_eq_false_iff_not]; exact fun r => nm ⟨r.1, r.2, q⟩)
      · exact .inr (by simpa using q)
    rw [e] at nb
    simp at t22
    rcases hw with hw | hw
    · rw [hw] at s1 t22 ⊢
      simp at s1
      simp [m_is_hindrance, b_is_hindrance, sD, t22, s1, c_MOST_TASKS, nb, hB]
    · rw [hw] at s1 s2 t22 ⊢
      have ne : ¬ (("late" : Str) = "ring") := by decide +kernel
      simp [ne] at s1 s2
      simp [m_is_hindrance, b_is_hindrance, sD, t22, s1, s2, c_MOST_TASKS, nb, hB]
/-! the law's own reading -/
theorem take_nd {zs : List Str} {i : Nat} (hi : i < zs.length) : ((zs.take i).Nodup → zs.getD i "" ∉ zs.take i → (zs.take (i + 1)).Nodup) ∧ (zs.getD i "" ∈ zs.take i → ¬ zs.Nodup) := by
  have hx : zs[i]? = some (zs.getD i "") := by simp [hi, List.getD_eq_getElem?_getD]
  have e := take_snoc hx
  constructor
  · intro a b
    rw [e, List.nodup_append]
    refine ⟨a, by simp, fun x hx y hy => ?_⟩
    simp at hy
    subst hy
    intro q
    subst q
    exact b hx
  · intro a nd
    have : (zs.take (i + 1)).Nodup := List.Sublist.nodup (List.take_sublist _ _) nd
    rw [e, List.nodup_append] at this
    exact this.2.2 _ a _ (by simp) rfl
theorem s_lhind (ts : List Ta) (h : Good ts) (due : Int) (T : Str → Ta) (hT : ∀ t ∈ ts, T t.n = t) (ring : Bool) (zs : List Str) (hok : ∀ z ∈ zs, Nam z) (hl : zs.length < 100) :
    m__law_is_hindrance [.tup (ts.map tD), .int due, .str (wS ring), .tup (zs.map .str)] = .ok (.v (.bl (hind (ts.map (·.n)) T due ring zs))) := by
  have C := hind_cond (ts.map (·.n)) T due ring zs
  generalize hind (ts.map (·.n)) T due ring zs = B at C
  have hL := h.len
  have aft : ∀ z ∈ ts.map (·.n), Nms (T z).a ∧ (T z).a.length ≤ 16 := fun z hz => by
    obtain ⟨t, ht, rfl⟩ := List.mem_map.mp hz
    rw [hT t ht]
    exact ⟨h.nms ht, (h.aft t ht).2.1⟩
  have x1 := x_int1' (zs.length : Int) (by omega)
  simp [m__law_is_hindrance, b__law_is_hindrance]
  refine lp_eq ts (h := tD) (J := fun i ρ => ∃ v5, ρ = [some (.v (.tup (ts.map tD))), some (.v (.int due)), some (.v (.str (wS ring))), some (.v (.tup (zs.map .str))), some (.o (.dic false (mpD ((ts.take i).map (·.n)) fun z => tD (T z)))), v5, none, none]) rfl ⟨none, by simp [mpD]⟩ ?_ ?_
  · rintro i t _ hx ⟨v5, rfl⟩
    have ht := List.mem_of_getElem? hx
    have nt := not_take (fun t : Ta => t.n) h.nd hx
    have hlen : ((ts.take i).map (·.n)).length < 16777216 := by simp; omega
    rw [take_snoc hx, List.map_append]
    generalize (ts.take i).map (·.n) = K at nt hlen
    have p := gPut_mp (fun z => tD (T z)) t.n (tD (T t.n)) K
    rw [updF_id] at p
    rw [hT t ht] at p
    simp [nt] at p
    have e0 : dIx (tD t) (.int 0) = some (.v (.str t.n)) := by simp [tD]
    simp [b__law_is_hindrance_f1, e0, p, hlen]
  rintro _ ⟨v5, rfl⟩
  rw [List.take_length]
  generalize ts.map (·.n) = K at C aft
  by_cases h0 : 0 < zs.length
  · have hne : ¬ zs = [] := fun e => by rw [e] at h0; cases h0
    have gg : ∀ z, z ∈ K → gGet false (mpD K fun z => tD (T z)) [.inr z] = some (.tup [.str (T z).n, .int (T z).d, .tup ((T z).a.map .str)]) := fun z hz => by have := gGet_mp (fun z => tD (T z)) z K; rw [if_pos hz] at this; exact this
    have gn := fun z (hz : z ∉ K) => by have := gGet_mp (fun z => tD (T z)) z K; simp [hz] at this; exact this
    have inA : ∀ z ∈ K, ∀ y, sOk y = true → dIn (.str y) (.tup ((T z).a.map .str)) = some (decide (y ∈ (T z).a)) := fun z hz y hy => in_strsT hy (fun x hx => Nam.ok ((aft z hz).1.nam x hx))
    simp [hne, x1]
    refine rg_eq (J := fun i ρ => ((zs.take i).Nodup ∧ (∀ z ∈ zs.take i, z ∈ K) ∧ ∀ k, k < i → chain T zs k = true) ∧ ∃ v6, ρ = [some (.v (.tup (ts.map tD))), some (.v (.int due)), some (.v (.str (wS ring))), some (.v (.tup (zs.map .str))), some (.o (rowsD K T)), v5, v6, none]) ⟨⟨by simp, by simp, fun k hk => by omega⟩, none, rfl⟩ ?_ ?_
    · rintro i _ hi ⟨⟨c1, c2, c3⟩, v6, rfl⟩
      have p1 := at_str zs i hi
      have m1 := getD_mem zs i hi
      obtain ⟨nd1, nd2⟩ := take_nd hi
      have hx : zs[i]? = some (zs.getD i "") := by simp [hi, List.getD_eq_getElem?_getD]
      have itk := in_strsT (z := zs.getD i "") (zs := zs.take i) (Nam.ok (hok _ m1)) (fun z hz => Nam.ok (hok z (List.mem_of_mem_take hz)))
      have ct : cutG (zs.map D.str) none (some (i : Int)) = (zs.map D.str).take i := by rw [cutG_to (by omega)]; simp
      rw [List.map_take] at itk
      have n2 := C.n2 _ m1
      have n1 := C.n1
      have ch : ∀ hc : 0 < i, chain T zs i = decide (zs.getD (i - 1) "" ∈ (T (zs.getD i "")).a) := fun hc => by
        have : ¬ i = 0 := by omega
        simp [chain, this]
      have n3 := C.n3 i hi
      have p0 : 0 < i → L2.atI (zs.map D.str) ((i : Int) - 1) = some (.str (zs.getD (i - 1) "")) := fun q => by
        have := at_str zs (i - 1) (by omega)
        rwa [show ((i - 1 : Nat) : Int) = (i : Int) - 1 by omega] at this
      have ts0 := take_snoc hx
      have nxt : zs.getD i "" ∈ K → zs.getD i "" ∉ zs.take i → chain T zs i = true → (zs.take (i + 1)).Nodup ∧ (∀ z ∈ zs.take (i + 1), z ∈ K) ∧ ∀ k, k < i + 1 → chain T zs k = true := fun a b c => by
        refine ⟨nd1 c1 b, fun z hz => ?_, fun k hk => ?_⟩
        · rw [ts0] at hz
          rcases List.mem_append.mp hz with hz | hz
          · exact c2 z hz
          · cases List.mem_singleton.mp hz; exact a
        · by_cases e : k = i
          · subst e; exact c
          · exact c3 k (by omega)
      have m0 : 0 < i → zs.getD (i - 1) "" ∈ zs := fun q => getD_mem zs (i - 1) (by omega)
      clear ts0 hx nd1
      generalize zs.getD i "" = z at *
      generalize zs.getD (i - 1) "" = y at *
      by_cases q1 : z ∈ K
      · by_cases q2 : z ∈ zs.take i
        · have := n1 (nd2 q2)
          simp [b__law_is_hindrance_f2, rowsD, p1, gg z q1, ct, itk, q2, this]
        · by_cases q3 : 0 < i
          · have ia := inA z q1 y (Nam.ok (hok y (m0 q3)))
            by_cases q4 : y ∈ (T z).a
            · simp [b__law_is_hindrance_f2, rowsD, p1, gg z q1, ct, itk, q2, q3, p0 q3, ia, q4]
              exact nxt q1 q2 (by rw [ch q3]; simpa using q4)
            · have := n3 (by rw [ch q3]; simpa using q4)
              simp [b__law_is_hindrance_f2, rowsD, p1, gg z q1, ct, itk, q2, q3, p0 q3, ia, q4, this]
          · have e : i = 0 := by omega
            have cc : chain T zs i = true := by rw [e]; exact chain_0 T zs
            simp [b__law_is_hindrance_f2, rowsD, p1, gg z q1, ct, itk, q2, q3]
            exact nxt q1 q2 cc
      · have := n2 q1
        simp [b__law_is_hindrance_f2, rowsD, p1, gn z q1, this]
    rintro _ ⟨⟨c1, c2, c3⟩, v6, rfl⟩
    rw [List.take_length] at c1 c2
    have hB := C.yes h0 c1 c2 c3
    have l1 := at_last zs h0
    have l2 : L2.atI (zs.map D.str) 0 = some (.str (zs.getD 0 "")) := at_str zs 0 h0
    have m1 := getD_mem zs (zs.length - 1) (by omega)
    have m2 := getD_mem zs 0 h0
    cases ring
    · have e : ¬ (wS false = "ring") := by decide +kernel
      simp [e, x_eLc]
      refine lm_b zs (fun z => .int (T z).d) (h := D.str) rfl (by omega) (fun z hz => ?_) ?_
      · have g := gg z (c2 z hz)
        simp [rowsD, b__law_is_hindrance_c3, g]
      · simp [days]
        rw [hB]
        simp [fin]
    · have e : wS true = "ring" := by decide +kernel
      rw [hB]
      simp only [fin, if_true]
      generalize zs.getD (zs.length - 1) "" = y at *
      generalize zs.getD 0 "" = z at *
      have g := gg z (c2 z m2)
      have ia := inA z (c2 z m2) y (Nam.ok (hok y m1))
      simp [e, rowsD, l1, l2, g, ia]
  · have e : zs = [] := List.length_eq_zero_iff.mp (by omega)
    have := C.n0 h0
    subst e
    simp [this]
end K68

namespace K68
open PL PySem Std
open FF (Nums divS)
/-- a dict from names to numbers -/
def nD (K : List Str) (f : Str → Int) : D := .dic false (mpD K fun z => .int (f z))
theorem nGet (K : List Str) (f : Str → Int) {z : Str} (hz : z ∈ K) : gGet false (mpD K fun z => .int (f z)) [.inr z] = some (.int (f z)) := by
  have := gGet_mp (fun z => D.int (f z)) z K; rw [if_pos hz] at this; exact this
theorem nPut (K : List Str) (f : Str → Int) {z : Str} (hz : z ∈ K) (v : Int) : gPut false (mpD K fun z => .int (f z)) [.inr z] (.str z) (.int v) = mpD K fun y => .int (updF f z v y) := by
  have := gPut_mp (fun z => D.int (f z)) z (.int v) K; rw [if_pos hz] at this; rw [this]
  congr 1
  funext y
  by_cases e : y = z <;> simp [updF, e]
theorem nPutN (K : List Str) (f : Str → Int) {z : Str} (hz : z ∉ K) : gPut false (mpD K fun z => .int (f z)) [.inr z] (.str z) (.int (f z)) = mpD (K ++ [z]) fun y => .int (f y) := by
  have := gPut_mp (fun z => D.int (f z)) z (.int (f z)) K; rw [if_neg hz, updF_id] at this; exact this
def Bd (K : List Str) (f : Str → Int) (b : Int) : Prop := ∀ z ∈ K, 0 ≤ f z ∧ f z ≤ b
def E1 (ts : List Ta) (K : List Str) (T : Str → Ta) (i : Nat) (ρ : Rho) : Prop := ∃ f v3 v4 v5 v6 v7 v8, Bd K f (25600 * i) ∧ ρ = [some (.v (.tup (ts.map tD))), some (.o (nD K fun z => (T z).d)), some (.o (nD K f)), v3, v4, v5, v6, v7, v8]
def E2 (ts : List Ta) (K : List Str) (T : Str → Ta) (i j : Nat) (ρ : Rho) : Prop := ∃ f v3 v4 v5 v6 b v8, Bd K f (25600 * i + 1600 * j) ∧ ρ = [some (.v (.tup (ts.map tD))), some (.o (nD K fun z => (T z).d)), some (.o (nD K f)), v3, v4, v5, v6, some (.v (.bl b)), v8]
def E3 (ts : List Ta) (K : List Str) (T : Str → Ta) (t : Ta) (i j l : Nat) (ρ : Rho) : Prop := ∃ f v3 v5 v6 b v8, Bd K f (25600 * i + 1600 * j + 100 * l) ∧ ρ = [some (.v (.tup (ts.map tD))), some (.o (nD K fun z => (T z).d)), some (.o (nD K f)), v3, some (.v (.str t.n)), v5, v6, some (.v (.bl b)), v8]
theorem s_earliest (ts : List Ta) (h : Good ts) (T : Str → Ta) (hT : ∀ t ∈ ts, T t.n = t) :
    Ev (m__law_earliest [.tup (ts.map tD)]) (fun s => s = .v .non ∨ ∃ f, Bd (ts.map (·.n)) f 500000 ∧ s = .o (nD (ts.map (·.n)) f)) := by
  have hL := h.len
  have x1 := x_int1' ((ts.length : Int) + 1) (by omega)
  have er : rgD 0 ((ts.length : Int) + 1).toNat = rgD 0 (ts.length + 1) := by congr 1
  simp [m__law_earliest, b__law_earliest]
  refine lp_v ts (h := tD) (J := fun i ρ => ∃ v4 v5 v6, ρ = [some (.v (.tup (ts.map tD))), some (.o (nD ((ts.take i).map (·.n)) fun z => (T z).d)), some (.o (nD ((ts.take i).map (·.n)) fun z => 0)), none, v4, v5, v6, none, none]) rfl ⟨none, none, none, by simp [nD, mpD]⟩ ?_ ?_
  · rintro i t _ hx ⟨v4, v5, v6, rfl⟩
    have ht := List.mem_of_getElem? hx
    have nt := not_take (fun t : Ta => t.n) h.nd hx
    have hlen : ((ts.take i).map (·.n)).length < 16777216 := by simp; omega
    rw [take_snoc hx, List.map_append]
    generalize (ts.take i).map (·.n) = K at nt hlen
    have p1 := nPutN K (fun z => (T z).d) nt
    have p2 := nPutN K (fun z => (0 : Int)) nt
    have eT : (T t.n).d = t.d := by rw [hT t ht]
    rw [eT] at p1
    simp [tD, b__law_earliest_f1, nD, p1, p2, hlen]
  rintro _ ⟨v4, v5, v6, rfl⟩
  rw [List.take_length]
  simp [x1]
  generalize hK : ts.map (·.n) = K
  have hKl : K.length < 16777216 := by rw [← hK]; simp; omega
  have dT : ∀ z ∈ K, 1 ≤ (T z).d ∧ (T z).d ≤ 100 := fun z hz => by
    rw [← hK] at hz
    obtain ⟨t, ht, rfl⟩ := List.mem_map.mp hz
    rw [hT t ht]
    exact h.day t ht
  refine rg_v (J := fun i ρ => E1 ts K T i ρ) ⟨fun _ => 0, none, v4, v5, v6, none, none, fun z _ => by simp, rfl⟩ ?_ ?_
  · rintro i _ hi ⟨f, v3, v4, v5, v6, v7, v8, hf, rfl⟩
    simp [b__law_earliest_f4]
    refine lp_a ts (h := tD) (J := fun j ρ => E2 ts K T i j ρ) rfl ⟨f, _, v4, v5, v6, false, v8, fun z hz => by have := hf z hz; omega, rfl⟩ ?_ ?_
    · rintro j t _ hx ⟨f, v3, v4, v5, v6, b, v8, hf, rfl⟩
      have ht := List.mem_of_getElem? hx
      have sub := (h.aft t ht).2.2
      have tl := (h.aft t ht).2.1
      have tn : t.n ∈ K := by rw [← hK]; exact List.mem_map_of_mem ht
      rw [hK] at sub
      simp [tD, b__law_earliest_f3]
      refine lp_a t.a (h := D.str) (J := fun l ρ => E3 ts K T t i j l ρ) rfl ⟨f, v3, _, _, b, v8, fun z hz => by have := hf z hz; omega, rfl⟩ ?_ ?_
      · rintro l z _ hz ⟨f, v3, v5, v6, b, v8, hf, rfl⟩
        have zn := sub z (List.mem_of_getElem? hz)
        have g1 := nGet K f tn
        have g2 := nGet K f zn
        have g3 := nGet K (fun z => (T z).d) zn
        have p := nPut K f tn (f z + (T z).d)
        by_cases c : f t.n < f z + (T z).d
        · simp [b__law_earliest_f2, nD, g1, g2, g3, c, p, hKl]
          refine ⟨updF f t.n (f z + (T z).d), v3, v5, v6, true, _, fun y hy => ?_, rfl⟩
          have h1 := hf z zn
          have h2 := dT z zn
          by_cases e : y = t.n
          · rw [e, updF_same]; omega
          · rw [updF_ne _ _ e]; have := hf y hy; omega
        · simp [b__law_earliest_f2, nD, g1, g2, g3, c]
          exact ⟨f, v3, v5, v6, b, _, fun y hy => by have := hf y hy; omega, rfl⟩
      · rintro _ ⟨f, v3, v5, v6, b, v8, hf, rfl⟩
        simp
        exact ⟨f, v3, _, v5, v6, b, v8, fun y hy => by have := hf y hy; omega, rfl⟩
    · rintro _ ⟨f, v3, v4, v5, v6, b, v8, hf, rfl⟩
      cases b <;> simp
      · exact ⟨f, fun y hy => by have := hf y hy; omega, rfl⟩
      · exact ⟨f, v3, v4, v5, v6, _, v8, fun y hy => by have := hf y hy; omega, rfl⟩
  · rintro _ ⟨f, v3, v4, v5, v6, v7, v8, hf, rfl⟩
    simp
/-! the latest starts -/
def L1 (ts : List Ta) (K : List Str) (T : Str → Ta) (due : Int) (ρ : Rho) : Prop := ∃ f v4 v5 v6 v7 v8, ρ = [some (.v (.tup (ts.map tD))), some (.v (.int due)), some (.o (nD K f)), some (.o (nD K fun z => (T z).d)), v4, v5, v6, v7, v8]
def L3 (ts : List Ta) (K : List Str) (T : Str → Ta) (due : Int) (t : Ta) (ρ : Rho) : Prop := ∃ f v4 v6 v7 v8, ρ = [some (.v (.tup (ts.map tD))), some (.v (.int due)), some (.o (nD K f)), some (.o (nD K fun z => (T z).d)), v4, some (.v (.str t.n)), v6, v7, v8]
theorem s_latest (ts : List Ta) (h : Good ts) (T : Str → Ta) (hT : ∀ t ∈ ts, T t.n = t) (due : Int) :
    Ev (m__law_latest [.tup (ts.map tD), .int due]) (fun s => ∃ f, s = .o (nD (ts.map (·.n)) f)) := by
  have hL := h.len
  have x1 := x_int1' ((ts.length : Int) + 1) (by omega)
  simp [m__law_latest, b__law_latest]
  refine lp_v ts (h := tD) (J := fun i ρ => ∃ v5 v6 v7, ρ = [some (.v (.tup (ts.map tD))), some (.v (.int due)), some (.o (nD ((ts.take i).map (·.n)) fun z => due - (T z).d)), none, none, v5, v6, v7, none]) rfl ⟨none, none, none, by simp [nD, mpD]⟩ ?_ ?_
  · rintro i t _ hx ⟨v4, v5, v6, rfl⟩
    have ht := List.mem_of_getElem? hx
    have nt := not_take (fun t : Ta => t.n) h.nd hx
    have hlen : ((ts.take i).map (·.n)).length < 16777216 := by simp; omega
    rw [take_snoc hx, List.map_append]
    generalize (ts.take i).map (·.n) = K at nt hlen
    have p1 := nPutN K (fun z => due - (T z).d) nt
    have eT : (T t.n).d = t.d := by rw [hT t ht]
    rw [eT] at p1
    simp [tD, b__law_latest_f1, nD, p1, hlen]
  rintro _ ⟨v5, v6, v7, rfl⟩
  rw [List.take_length]
  simp
  generalize hK : ts.map (·.n) = K
  have hKl : K.length < 16777216 := by rw [← hK]; simp; omega
  refine lp_v ts (h := tD) (J := fun i ρ => ∃ v5 v6 v7, ρ = [some (.v (.tup (ts.map tD))), some (.v (.int due)), some (.o (nD K fun z => due - (T z).d)), some (.o (nD ((ts.take i).map (·.n)) fun z => (T z).d)), none, v5, v6, v7, none]) rfl ⟨v5, v6, v7, by simp [nD, mpD]⟩ ?_ ?_
  · rintro i t _ hx ⟨v4, v5, v6, rfl⟩
    have ht := List.mem_of_getElem? hx
    have nt := not_take (fun t : Ta => t.n) h.nd hx
    have hlen : ((ts.take i).map (·.n)).length < 16777216 := by simp; omega
    rw [take_snoc hx, List.map_append]
    generalize (ts.take i).map (·.n) = K at nt hlen
    have p1 := nPutN K (fun z => (T z).d) nt
    have eT : (T t.n).d = t.d := by rw [hT t ht]
    rw [eT] at p1
    simp [tD, b__law_latest_f2, nD, p1, hlen]
  rintro _ ⟨v5, v6, v7, rfl⟩
  rw [List.take_length, hK]
  simp [x1]
  refine rg_v (J := fun i ρ => L1 ts K T due ρ) ⟨fun z => due - (T z).d, none, v5, v6, v7, none, rfl⟩ ?_ ?_
  · rintro i _ hi ⟨f, v4, v5, v6, v7, v8, rfl⟩
    simp [b__law_latest_f5]
    refine lp_a ts (h := tD) (J := fun i ρ => L1 ts K T due ρ) rfl ⟨f, _, v5, v6, v7, v8, rfl⟩ ?_ ?_
    · rintro j t _ hx ⟨f, v4, v5, v6, v7, v8, rfl⟩
      have ht := List.mem_of_getElem? hx
      have sub := (h.aft t ht).2.2
      have tn : t.n ∈ K := by rw [← hK]; exact List.mem_map_of_mem ht
      rw [hK] at sub
      simp [tD, b__law_latest_f4]
      refine lp_a t.a (h := D.str) (J := fun i ρ => L3 ts K T due t ρ) rfl ⟨f, v4, _, _, v8, rfl⟩ ?_ ?_
      · rintro l z _ hz ⟨f, v4, v6, v7, v8, rfl⟩
        have zn := sub z (List.mem_of_getElem? hz)
        have g1 := nGet K f tn
        have g2 := nGet K f zn
        have g3 := nGet K (fun z => (T z).d) zn
        have p := fun v => nPut K f zn v
        simp [b__law_latest_f3, nD, g1, g2, g3, p, hKl]
        exact ⟨_, v4, v6, v7, _, rfl⟩
      · rintro _ ⟨f, v4, v6, v7, v8, rfl⟩
        simp
        exact ⟨f, v4, _, v6, v7, v8, rfl⟩
    · rintro _ ⟨f, v4, v5, v6, v7, v8, rfl⟩
      simp
      exact ⟨f, v4, v5, v6, v7, v8, rfl⟩
  · rintro _ ⟨f, v4, v5, v6, v7, v8, rfl⟩
    simp
    exact ⟨f, rfl⟩
end K68

namespace K68
open PL PySem Std
open FF (Nums divS)
theorem isnD (t : Bool) (k : List (D × D)) : dIsNon (.dic t k) = false := (rfl)
theorem x_maxL (ds : List D) : dMax [.lst ds] = (match intsD ds with
    | some (n :: ns) => some (.v (.int (maxI (n :: ns))))
    | _ => none) := (rfl)
theorem max0 (xs : List Int) : ∃ m : Int, 0 ≤ m ∧ dMax [.lst (xs.map .int ++ [.int 0])] = some (.v (.int m)) := by
  refine ⟨maxI (xs ++ [0]), maxI_le (by simp), ?_⟩
  have e : xs.map D.int ++ [.int 0] = (xs ++ [0]).map .int := by simp
  rw [e]
  rw [x_maxL, intsD_map]
  cases xs <;> rfl
theorem s_due (ts : List Ta) (h : Good ts) (T : Str → Ta) (hT : ∀ t ∈ ts, T t.n = t) (n : Int) :
    ∃ e : Int, 0 ≤ e ∧ e ≤ 2000 ∧ m__law_due [.tup (ts.map tD), .int n] = .ok (.v (.int e)) := by
  have hL := h.len
  have key : Ev (m__law_due [.tup (ts.map tD), .int n]) (fun s => ∃ e : Int, 0 ≤ e ∧ e ≤ 2000 ∧ s = .v (.int e)) := by
    obtain ⟨s, e, hs⟩ := s_earliest ts h T hT
    have d6 := divS n (b := 6) (by omega) (by omega)
    rcases hs with rfl | ⟨f, _, rfl⟩
    · simp [-x_div, m__law_due, b__law_due, e, d6]
      split <;> omega
    · have k0 : 0 ≤ n % 6 := by omega
      have k1 : n % 6 < 6 := by omega
      generalize hk : n % 6 = k at k0 k1
      by_cases c : k < 4
      · simp [-x_div, m__law_due, b__law_due, e, d6, nD, hk, c, x_eLc, isnD]
        refine lm_v ts (fun t => .int (f t.n + t.d)) (h := tD) rfl (by omega) (fun t ht => ?_) ?_
        · have g := nGet (ts.map (·.n)) f (List.mem_map_of_mem (f := fun t : Ta => t.n) ht)
          simp [b__law_due_c1, tD, g]
        · obtain ⟨m, m0, em⟩ := max0 (ts.map fun t => f t.n + t.d)
          have e1 : ts.map (fun t => D.int (f t.n + t.d)) = (ts.map fun t => f t.n + t.d).map .int := by rw [List.map_map]; rfl
          rw [e1]
          have hx : (ts.map fun t => f t.n + t.d).length ≤ 16777215 := by simp; omega
          generalize ts.map (fun t => f t.n + t.d) = xs at em hx
          by_cases c1 : k = 1
          · simp [hx, em, c1]
            split <;> omega
          · by_cases c2 : k = 2
            · by_cases c3 : m = 0
              · simp [hx, em, c1, c2, c3]
              · simp [hx, em, c1, c2, c3]
                split <;> omega
            · by_cases c4 : k = 3
              · simp [-x_div, hx, em, c1, c2, c4, d6]
                split <;> omega
              · simp [hx, em, c1, c2, c4]
                split <;> omega
      · have c1 : ¬ k = 1 := by omega
        simp [-x_div, m__law_due, b__law_due, e, d6, nD, hk, c, isnD]
        split <;> omega
  obtain ⟨s, e, x, x0, x1, rfl⟩ := key
  exact ⟨x, x0, x1, e⟩
end K68

namespace K68
open PL PySem Std
open FF (Nums divS)
theorem num_at {xs : List Int} (h : Nums 110 xs) (i : Int) (h0 : 0 ≤ i) (h1 : i < 110) : ∃ x : Int, 0 ≤ x ∧ x < 1000000 ∧ L2.atI (xs.map D.int) i = some (.int x) := by
  obtain ⟨x, g, m⟩ := atI_ex (xs := xs) h0 (by rw [h.1]; exact h1)
  exact ⟨x, (h.2 x m).1, (h.2 x m).2, atI_map' D.int g⟩
theorem rot {α : Type} (xs : List α) (a : Nat) : (xs.drop a ++ xs.take a).Perm xs := by
  have := List.perm_append_comm (l₁ := xs.drop a) (l₂ := xs.take a)
  rw [List.take_append_drop] at this
  exact this
/-- a drawn task -/
structure TaOk (zs : List Str) (t : Ta) : Prop where
  d : 1 ≤ t.d ∧ t.d ≤ 100
  nd : t.a.Nodup
  sub : ∀ z ∈ t.a, z ∈ zs
def sT (xs : List Int) (zs : List Str) (r : Bool) (sh : Int) (ts : List Ta) (v6 v7 v8 v9 v10 v11 v12 : Option S) : Rho :=
  [some (.v (.lst (xs.map .int))), some (.o (.lst (zs.map .str))), some (.v (.int (zs.length : Int))), some (.v (.bl r)), some (.v (.int sh)), some (.o (.lst (ts.map tD))), v6, v7, v8, v9, v10, v11, v12]
def JT (xs : List Int) (zs : List Str) (r : Bool) (sh : Int) (i : Nat) (ρ : Rho) : Prop :=
  ∃ ts v6 v7 v8 v9 v10 v11 v12, ts.map (·.n) = zs.take i ∧ (∀ t ∈ ts, TaOk zs t) ∧ ρ = sT xs zs r sh ts v6 v7 v8 v9 v10 v11 v12
def b_SC : Sx := sSeq (sIf (t2 dGt (eB dLen1 (aCons (eVar 8) (aNil))) (eC (.int 0))) (sSeq (sSet [] 10 (e2 dMod (eB dInt1 (aCons (e2 dDiv (e2 dIx (eVar 0) (e2 dAdd (eC (.int 60)) (eVar 6))) (eC (.int 64))) (aNil))) (eB dLen1 (aCons (eVar 8) (aNil))))) (sSet [] 8 (e2 dAdd (eSl (eVar 8) (pSo (eVar 10)) (pNo)) (eSl (eVar 8) (pNo) (pSo (eVar 10)))))) (sNil)) (sEx (eMl [] 5 mAppend (aCons (eTup [] (aCons (e2 dIx (eVar 1) (eVar 6)) (aCons (eVar 7) (aCons (eB dTup1 (aCons (eVar 8) (aNil))) (aNil))))) (aNil))))
def b_SB : Sx := sSeq (sIf (tAnd (tTru (eVar 3)) (t2 dEq (e2 dMod (eB dInt1 (aCons (e2 dIx (eVar 0) (e2 dAdd (eC (.int 60)) (eVar 6))) (aNil))) (eC (.int 4))) (eC (.int 0)))) (sSeq (sSet [] 12 (e2 dIx (eVar 1) (e2 dMod (eB dInt1 (aCons (e2 dDiv (e2 dIx (eVar 0) (e2 dAdd (eC (.int 60)) (eVar 6))) (eC (.int 4))) (aNil))) (eVar 2)))) (sIf (t2 dNotIn (eVar 12) (eVar 8)) (sEx (eMl [] 8 mAppend (aCons (eVar 12) (aNil)))) (sNil))) (sNil)) (sSeq (sIf (t2 dGt (eB dLen1 (aCons (eVar 8) (aNil))) (eC (.int 0))) (sSeq (sSet [] 10 (e2 dMod (eB dInt1 (aCons (e2 dDiv (e2 dIx (eVar 0) (e2 dAdd (eC (.int 60)) (eVar 6))) (eC (.int 64))) (aNil))) (eB dLen1 (aCons (eVar 8) (aNil))))) (sSet [] 8 (e2 dAdd (eSl (eVar 8) (pSo (eVar 10)) (pNo)) (eSl (eVar 8) (pNo) (pSo (eVar 10)))))) (sNil)) (sEx (eMl [] 5 mAppend (aCons (eTup [] (aCons (e2 dIx (eVar 1) (eVar 6)) (aCons (eVar 7) (aCons (eB dTup1 (aCons (eVar 8) (aNil))) (aNil))))) (aNil)))))
theorem fin_JT {xs : List Int} {zs : List Str} {r : Bool} {sh : Int} {i : Nat} (hi : i < zs.length) {ts : List Ta} (ht : ts.map (·.n) = zs.take i) (hok : ∀ t ∈ ts, TaOk zs t) {dd : Int} (hd : 1 ≤ dd ∧ dd ≤ 100) (as : List Str) (a : as.Nodup) (b : ∀ z ∈ as, z ∈ zs) (v6 v7 v8 v9 v10 v11 v12 : Option S) :
    JT xs zs r sh (i + 1) [some (.v (.lst (xs.map .int))), some (.o (.lst (zs.map .str))), some (.v (.int (zs.length : Int))), some (.v (.bl r)), some (.v (.int sh)), some (.o (.lst (ts.map tD ++ [.tup [.str (zs.getD i ""), .int dd, .tup (as.map .str)]]))), v6, v7, v8, v9, v10, v11, v12] := by
  have nm : zs.take (i + 1) = zs.take i ++ [zs.getD i ""] := take_snoc (by simp [hi, List.getD_eq_getElem?_getD])
  refine ⟨ts ++ [(⟨zs.getD i "", dd, as⟩ : Ta)], v6, v7, v8, v9, v10, v11, v12, by rw [List.map_append, ht, nm]; rfl, fun t q => ?_, by simp [sT, tD]⟩
  rcases List.mem_append.mp q with q | q
  · exact hok t q
  · cases List.mem_singleton.mp q; exact ⟨hd, a, b⟩
theorem s_SC {xs : List Int} (hx : Nums 110 xs) (zs : List Str) (hl : zs.length ≤ 16) (r : Bool) (sh : Int) (i : Nat) (hi : i < zs.length) (ts : List Ta) (ht : ts.map (·.n) = zs.take i) (hok : ∀ t ∈ ts, TaOk zs t) (dd : Int) (hd : 1 ≤ dd ∧ dd ≤ 100)
    (as : List Str) (hn : as.Nodup) (hs : ∀ z ∈ as, z ∈ zs) (h16 : as.length ≤ 16) (v9 v10 v11 v12 : Option S) :
    Ev (b_SC (sT xs zs r sh ts (some (.v (.int (i : Int)))) (some (.v (.int dd))) (some (.o (.lst (as.map .str)))) v9 v10 v11 v12)) (fun q => ∃ ρ, q = .next ρ ∧ JT xs zs r sh (i + 1) ρ) := by
  have hln : ts.length = i := by have := congrArg List.length ht; simp at this; omega
  have hl2 : ts.length < 16777216 := by omega
  have pk := at_str zs i hi
  obtain ⟨x60, x600, x601, g60⟩ := num_at hx (60 + (i : Int)) (by omega) (by omega)
  have d64 := divS x60 (b := 64) (by omega) (by omega)
  have fin := fun as a b => fin_JT (xs := xs) (r := r) (sh := sh) hi ht hok hd as a b
  generalize zs.getD i "" = nmi at *
  by_cases h0 : 0 < as.length
  · have lb : 0 ≤ x60 / 64 % (as.length : Int) := Int.emod_nonneg _ (by omega)
    have ll := Int.emod_lt_of_pos (x60 / 64) (show (0 : Int) < as.length by omega)
    have hne : ¬ as = [] := fun e => by rw [e] at h0; cases h0
    have lg2 : (as.length : Int).natAbs.log2 < 9000 := FF.lg (by omega)
    simp [-x_div, b_SC, sT, g60, d64, h0, hne, lg2]
    generalize x60 / 64 % (as.length : Int) = p at *
    have hle : as.length - p.toNat + min p.toNat as.length ≤ 16777216 := by omega
    simp [cutG_from lb, cutG_to lb, hle, pk, hl2]
    have f := fin (as.drop p.toNat ++ as.take p.toNat) ((rot as p.toNat).nodup_iff.mpr hn) (fun z q => hs z ((rot as p.toNat).mem_iff.mp q)) (some (.v (.int (i : Int)))) (some (.v (.int dd))) (some (.o (.lst ((as.drop p.toNat ++ as.take p.toNat).map .str)))) v9 (some (.v (.int p))) v11 v12
    simp at f
    exact f
  · have e : as = [] := List.length_eq_zero_iff.mp (by omega)
    subst e
    simp [-x_div, b_SC, sT, pk, hl2]
    exact fin [] hn hs _ _ _ _ _ _ _
theorem s_SB {xs : List Int} (hx : Nums 110 xs) (zs : List Str) (hz : Nms zs) (hl : zs.length ≤ 16) (r : Bool) (sh : Int) (i : Nat) (hi : i < zs.length) (ts : List Ta) (ht : ts.map (·.n) = zs.take i) (hok : ∀ t ∈ ts, TaOk zs t) (dd : Int) (hd : 1 ≤ dd ∧ dd ≤ 100)
    (as : List Str) (hn : as.Nodup) (hs : ∀ z ∈ as, z ∈ zs) (v9 v10 v11 v12 : Option S) :
    Ev (b_SB (sT xs zs r sh ts (some (.v (.int (i : Int)))) (some (.v (.int dd))) (some (.o (.lst (as.map .str)))) v9 v10 v11 v12)) (fun q => ∃ ρ, q = .next ρ ∧ JT xs zs r sh (i + 1) ρ) := by
  have as16 := pigeon hn hz.nd hs
  have ok : ∀ z ∈ zs, sOk z = true := fun z q => Nam.ok (hz.nam z q)
  obtain ⟨x60, x600, x601, g60⟩ := num_at hx (60 + (i : Int)) (by omega) (by omega)
  have d4 := divS x60 (b := 4) (by omega) (by omega)
  have rest := fun as hn hs h16 v12 => s_SC hx zs hl r sh i hi ts ht hok dd hd as hn hs h16 v9 v10 v11 v12
  simp only [b_SB]
  rw [← b_SC]
  generalize b_SC = TT at rest
  have R0 := rest as hn hs (by omega) v12
  obtain ⟨q0, e0, ρ0, rfl, j0⟩ := R0
  simp only [sT] at e0
  by_cases c : r = true ∧ x60 % 4 = 0
  · obtain ⟨rfl, c⟩ := c
    have lb : 0 ≤ x60 / 4 % (zs.length : Int) := Int.emod_nonneg _ (by omega)
    have ll := Int.emod_lt_of_pos (x60 / 4) (show (0 : Int) < zs.length by omega)
    have hz0 : 0 < zs.length := by omega
    have hzn : ¬ zs = [] := fun e => by rw [e] at hz0; cases hz0
    obtain ⟨y, gy, my⟩ := atI_ex (xs := zs) lb ll
    have gy := atI_map' D.str gy
    have iy := in_strsL (ok y my) (fun z q => ok z (hs z q))
    have al : as.length < 16777216 := by omega
    by_cases q : y ∈ as
    · have R1 := rest as hn hs (by omega) (some (.v (.str y)))
      obtain ⟨q1, e1, ρ1, rfl, j1⟩ := R1
      simp only [sT] at e1
      simp [-x_div, sT, g60, c, d4, hz0, hzn, gy, iy, q, e1]
      exact j1
    · have n2 : (as ++ [y]).Nodup := by
        rw [List.nodup_append]
        refine ⟨hn, by simp, fun a ha b hb => ?_⟩
        simp at hb
        subst hb
        intro e
        subst e
        exact q ha
      have s2 : ∀ z ∈ as ++ [y], z ∈ zs := fun z hz => by
        rcases List.mem_append.mp hz with h | h
        · exact hs z h
        · cases List.mem_singleton.mp h; exact my
      have l2 := pigeon n2 hz.nd s2
      have R1 := rest (as ++ [y]) n2 s2 (by omega) (some (.v (.str y)))
      obtain ⟨q1, e1, ρ1, rfl, j1⟩ := R1
      simp [sT] at e1
      simp [-x_div, sT, g60, c, d4, hz0, hzn, gy, iy, q, al, e1]
      exact j1
  · by_cases hr : r = true
    · have c : ¬ x60 % 4 = 0 := fun e => c ⟨hr, e⟩
      have cc : (x60 % 4 = 0) = False := eq_false c
      subst hr
      simp [-x_div, sT, g60, cc, e0]
      exact j0
    · have hr : r = false := by simpa using hr
      subst hr
      simp [sT, e0]
      exact j0
end K68

namespace K68
open PL PySem Std
open FF (Nums divS)
def JS (xs : List Int) (zs : List Str) (r : Bool) (sh : Int) (ts : List Ta) (i : Nat) (dd : Int) (v10 v12 : Option S) (j : Nat) (ρ : Rho) : Prop :=
  ∃ (as : List Str) (v9 v11 : Option S), as.Nodup ∧ (∀ z ∈ as, z ∈ zs.take j) ∧ ρ = sT xs zs r sh ts (some (.v (.int (i : Int)))) (some (.v (.int dd))) (some (.o (.lst (as.map .str)))) v9 v10 v11 v12
theorem f1_turn {xs : List Int} (hx : Nums 110 xs) (zs : List Str) (hz : Nms zs) (hl : zs.length ≤ 16) (r : Bool) (sh : Int) (ts : List Ta) (i : Nat) (hi : i < zs.length) (dd : Int) (v10 v11 v12 : Option S) (j : Nat) (hj : j < zs.length) (as : List Str) (hn : as.Nodup) (hs : ∀ z ∈ as, z ∈ zs.take j) :
    Ev (b__law_subject_f1 (sT xs zs r sh ts (some (.v (.int (i : Int)))) (some (.v (.int dd))) (some (.o (.lst (as.map .str)))) (some (.v (.int (j : Int)))) v10 v11 v12)) (fun q => ∃ ρ, q = .next ρ ∧ JS xs zs r sh ts i dd v10 v12 (j + 1) ρ) := by
  have al := pigeon hn hz.nd (fun z q => List.mem_of_mem_take (hs z q))
  have hal : as.length < 16777216 := by omega
  obtain ⟨x, x0, x1, gx⟩ := num_at hx (40 + ((i : Int) + (j : Int)) % 16) (by omega) (by omega)
  obtain ⟨y, y0, y1, gy⟩ := num_at hx 17 (by omega) (by omega)
  have m3 : dMul (.int 3) (.int (j : Int)) = some (.v (.int (3 * (j : Int)))) := x_mulL (by decide)
  have dx := divS x (b := 1 + 3 * (j : Int)) (by omega) (by omega)
  have d4 := divS y (b := 4) (by omega) (by omega)
  have hxj : zs[j]? = some (zs.getD j "") := by simp [hj, List.getD_eq_getElem?_getD]
  have pj := at_str zs j hj
  have tk := take_snoc hxj
  have nt : zs.getD j "" ∉ zs.take j := by
    have := not_take (fun z : Str => z) (by simpa using hz.nd) hxj
    simpa using this
  have same : ∀ v9 v11, JS xs zs r sh ts i dd v10 v12 (j + 1) (sT xs zs r sh ts (some (.v (.int (i : Int)))) (some (.v (.int dd))) (some (.o (.lst (as.map .str)))) v9 v10 v11 v12) := fun v9 v11 =>
    ⟨as, v9, v11, hn, fun z q => by rw [tk]; exact List.mem_append_left _ (hs z q), rfl⟩
  have more : ∀ v9 v11, JS xs zs r sh ts i dd v10 v12 (j + 1) (sT xs zs r sh ts (some (.v (.int (i : Int)))) (some (.v (.int dd))) (some (.o (.lst (as.map .str ++ [.str (zs.getD j "")])))) v9 v10 v11 v12) := fun v9 v11 =>
    ⟨as ++ [zs.getD j ""], v9, v11, by
      rw [List.nodup_append]
      refine ⟨hn, by simp, fun a ha b hb => ?_⟩
      simp at hb
      subst hb
      intro e
      subst e
      exact nt (hs _ ha), fun z q => by
      rw [tk]
      rcases List.mem_append.mp q with q | q
      · exact List.mem_append_left _ (hs z q)
      · exact List.mem_append_right _ q, by simp⟩
  generalize zs.getD j "" = w at *
  simp only [sT] at same more
  by_cases c1 : j < i
  · by_cases c2 : x / (1 + 3 * (j : Int)) % 5 < sh
    · simp [-x_div, -x_mul, b__law_subject_f1, sT, gx, gy, m3, dx, d4, pj, c1, c2, hal]
      exact more _ _
    · by_cases c3 : (j : Int) = (i : Int) - 1
      · by_cases c4 : y / 4 % 2 = 0
        · have c3 : ((j : Int) = (i : Int) - 1) = True := eq_true c3
          simp [-x_div, -x_mul, b__law_subject_f1, sT, gx, gy, m3, dx, d4, pj, c1, c2, c3, c4, hal]
          exact more _ _
        · have c4 : (y / 4 % 2 = 0) = False := eq_false c4
          have c3 : ((j : Int) = (i : Int) - 1) = True := eq_true c3
          simp [-x_div, -x_mul, b__law_subject_f1, sT, gx, gy, m3, dx, d4, pj, c1, c2, c3, c4]
          exact same _ _
      · simp [-x_div, -x_mul, b__law_subject_f1, sT, gx, gy, m3, dx, d4, pj, c1, c2, c3]
        exact same _ _
  · simp [-x_div, -x_mul, b__law_subject_f1, sT, gx, gy, m3, dx, d4, pj, c1]
    exact same _ _
theorem f2_turn {xs : List Int} (hx : Nums 110 xs) (zs : List Str) (hz : Nms zs) (hl : zs.length ≤ 16) (r : Bool) (sh : Int) (i : Nat) (hi : i < zs.length) (ρ : Rho) (h : JT xs zs r sh i ρ) :
    Ev (b__law_subject_f2 (ρ.set 6 (some (.v (.int (i : Int)))))) (fun q => ∃ ρ, q = .next ρ ∧ JT xs zs r sh (i + 1) ρ) := by
  obtain ⟨ts, v6, v7, v8, v9, v10, v11, v12, ht, hok, rfl⟩ := h
  have x1 := x_int1' (zs.length : Int) (by omega)
  obtain ⟨x, x0, x1', gx⟩ := num_at hx (20 + (i : Int)) (by omega) (by omega)
  have d4 := divS x (b := 4) (by omega) (by omega)
  have d32 := divS x (b := 32) (by omega) (by omega)
  have rest := fun dd hd as hn hs v9 v10 v11 v12 => s_SB hx zs hz hl r sh i hi ts ht hok dd hd as hn hs v9 v10 v11 v12
  simp only [b__law_subject_f2]
  rw [← b_SB]
  generalize b_SB = TT at rest
  by_cases c : x / 4 % 8 = 0
  · simp [-x_div, sT, gx, d4, d32, c, x1]
    refine rg_v (J := JS xs zs r sh ts i (100 - x / 32 % 3) v10 v12) ⟨[], v9, v11, by simp, by simp, rfl⟩ ?_ ?_
    · rintro j _ hj ⟨as, v9, v11, hn, hs, rfl⟩
      obtain ⟨q, e, ρ, rfl, h2⟩ := f1_turn hx zs hz hl r sh ts i hi (100 - x / 32 % 3) v10 v11 v12 j hj as hn hs
      simp only [sT] at e
      simp [sT, e]
      exact h2
    · rintro _ ⟨as, v9, v11, hn, hs, rfl⟩
      rw [List.take_length] at hs
      obtain ⟨q, e, ρ, rfl, h2⟩ := rest (100 - x / 32 % 3) (by omega) as hn hs v9 v10 v11 v12
      simp [e]
      exact h2
  · have c : (x / 4 % 8 = 0) = False := eq_false c
    simp [-x_div, sT, gx, d4, d32, c, x1]
    refine rg_v (J := JS xs zs r sh ts i (1 + x % 4) v10 v12) ⟨[], v9, v11, by simp, by simp, rfl⟩ ?_ ?_
    · rintro j _ hj ⟨as, v9, v11, hn, hs, rfl⟩
      obtain ⟨q, e, ρ, rfl, h2⟩ := f1_turn hx zs hz hl r sh ts i hi (1 + x % 4) v10 v11 v12 j hj as hn hs
      simp only [sT] at e
      simp [sT, e]
      exact h2
    · rintro _ ⟨as, v9, v11, hn, hs, rfl⟩
      rw [List.take_length] at hs
      obtain ⟨q, e, ρ, rfl, h2⟩ := rest (1 + x % 4) (by omega) as hn hs v9 v10 v11 v12
      simp [e]
      exact h2
end K68

namespace K68
open PL PySem Std
open FF (Nums divS)
theorem good_of {zs : List Str} (hz : Nms zs) (hl : zs.length ≤ 16) {ts0 ts : List Ta} (h0 : ts0.map (·.n) = zs) (hok : ∀ t ∈ ts0, TaOk zs t) (p : ts.Perm ts0) : Good ts := by
  have pn : (ts.map (·.n)).Perm zs := by rw [← h0]; exact p.map _
  have hok' : ∀ t ∈ ts, TaOk zs t := fun t q => hok t (p.mem_iff.mp q)
  have hn : ∀ t ∈ ts, t.n ∈ zs := fun t q => pn.mem_iff.mp (List.mem_map_of_mem (f := fun t : Ta => t.n) q)
  refine ⟨fun t q => hz.nam _ (hn t q), pn.nodup_iff.mpr hz.nd, ?_, fun t q => (hok' t q).d, fun t q => ⟨(hok' t q).nd, ?_, fun z q2 => pn.mem_iff.mpr ((hok' t q).sub z q2)⟩⟩
  · have := pn.length_eq
    rw [List.length_map] at this
    omega
  · have := pigeon (hok' t q).nd hz.nd (hok' t q).sub
    omega
def b_SF : Sx := sSeq (sIf (t2 dEq (e2 dMod (eB dInt1 (aCons (e2 dDiv (e2 dIx (eVar 0) (eC (.int 19))) (eC (.int 16))) (aNil))) (eC (.int 2))) (eC (.int 0))) (sSet [] 5 (eLc [] [6] (iRg1 (aCons (eVar 2) (aNil))) (gNm [] 6) (tsNo) b__law_subject_c3)) (sNil)) (sRet [] (eTup [] (aCons (eB dTup1 (aCons (eVar 5) (aNil))) (aCons (eCall [] 2 m__law_due (aCons (eB dTup1 (aCons (eVar 5) (aNil))) (aCons (e2 dIx (eVar 0) (eC (.int 80))) (aNil)))) (aNil)))))
def b_SE : Sx := sSeq (sIf (t2 dGt (eVar 2) (eC (.int 0))) (sSeq (sSet [] 10 (e2 dMod (eB dInt1 (aCons (e2 dIx (eVar 0) (eC (.int 19))) (aNil))) (eVar 2))) (sSet [] 5 (e2 dAdd (eSl (eVar 5) (pSo (eVar 10)) (pNo)) (eSl (eVar 5) (pNo) (pSo (eVar 10)))))) (sNil)) (sSeq (sIf (t2 dEq (e2 dMod (eB dInt1 (aCons (e2 dDiv (e2 dIx (eVar 0) (eC (.int 19))) (eC (.int 16))) (aNil))) (eC (.int 2))) (eC (.int 0))) (sSet [] 5 (eLc [] [6] (iRg1 (aCons (eVar 2) (aNil))) (gNm [] 6) (tsNo) b__law_subject_c3)) (sNil)) (sRet [] (eTup [] (aCons (eB dTup1 (aCons (eVar 5) (aNil))) (aCons (eCall [] 2 m__law_due (aCons (eB dTup1 (aCons (eVar 5) (aNil))) (aCons (e2 dIx (eVar 0) (eC (.int 80))) (aNil)))) (aNil))))))
def Sub (d : D) : Prop := ∃ ts due, Good ts ∧ 0 ≤ due ∧ due ≤ 2000 ∧ d = sD ts due
theorem rev_map (ts : List Ta) : (List.range ts.length).map (fun k => tD (ts.getD (ts.length - 1 - k) ⟨"", 0, []⟩)) = ts.reverse.map tD := by
  apply List.ext_getElem
  · simp
  · intro k h1 h2
    have hk : k < ts.length := by simpa using h1
    have : ts.length - 1 - k < ts.length := by omega
    simp [List.getElem_reverse, List.getD_eq_getElem?_getD, this]
theorem s_SF {xs : List Int} (hx : Nums 110 xs) (zs : List Str) (hz : Nms zs) (hl : zs.length ≤ 16) (r : Bool) (sh : Int) (ts0 ts : List Ta) (h0 : ts0.map (·.n) = zs) (hok : ∀ t ∈ ts0, TaOk zs t) (p : ts.Perm ts0) (v7 v8 v9 v10 v11 v12 v6 : Option S) :
    Ev (b_SF (sT xs zs r sh ts v6 v7 v8 v9 v10 v11 v12)) (fun q => ∃ d ρ, Sub d ∧ q = .ret (.v d) ρ) := by
  have hlen : ts.length = zs.length := by have := (p.map (fun t : Ta => t.n)).length_eq; rw [h0, List.length_map] at this; exact this
  have x1 := x_int1' (zs.length : Int) (by omega)
  obtain ⟨x, x0, x1', gx⟩ := num_at hx 19 (by omega) (by omega)
  obtain ⟨y, y0, y1', gy⟩ := num_at hx 80 (by omega) (by omega)
  have d16 := divS x (b := 16) (by omega) (by omega)
  have fin : ∀ ts : List Ta, ts.Perm ts0 → ∃ due, 0 ≤ due ∧ due ≤ 2000 ∧ m__law_due [.tup (ts.map tD), .int y] = .ok (.v (.int due)) ∧ Good ts := fun ts p => by
    have g := good_of hz hl h0 hok p
    obtain ⟨T, hT⟩ := exists_T ts g.nd
    obtain ⟨e, e0, e1, e2⟩ := s_due ts g T hT y
    exact ⟨e, e0, e1, e2, g⟩
  by_cases c : x / 16 % 2 = 0
  · obtain ⟨due, u0, u1, ue, g⟩ := fin ts.reverse ((List.reverse_perm ts).trans p)
    simp [-x_div, b_SF, sT, gx, d16, c, x_eLc, x1]
    refine lm_v (List.range zs.length) (fun k => tD (ts.getD (ts.length - 1 - k) ⟨"", 0, []⟩)) (h := fun k : Nat => D.int (0 + (k : Int))) rfl (by simp; omega) (fun k hk => ?_) ?_
    · have hk : k < zs.length := by simpa using hk
      have hlt : ts.length - 1 - k < ts.length := by omega
      have a : L2.atI (ts.map tD) ((zs.length : Int) - 1 - (k : Int)) = some (tD (ts.getD (ts.length - 1 - k) ⟨"", 0, []⟩)) := by
        rw [show (zs.length : Int) - 1 - (k : Int) = ((ts.length - 1 - k : Nat) : Int) by omega]
        exact atI_ofNat _ _ _ (by rw [List.getElem?_map, List.getD_eq_getElem?_getD, List.getElem?_eq_getElem hlt]; rfl)
      simp [b__law_subject_c3, a]
    · rw [← hlen, rev_map]
      simp only [List.map_reverse] at ue ⊢
      simp [gy, ue]
      exact ⟨ts.reverse, due, g, u0, u1, by simp [sD]⟩
  · obtain ⟨due, u0, u1, ue, g⟩ := fin ts p
    have c : (x / 16 % 2 = 0) = False := eq_false c
    simp [-x_div, b_SF, sT, gx, d16, c, gy, ue]
    exact ⟨ts, due, g, u0, u1, rfl⟩
theorem s_SE {xs : List Int} (hx : Nums 110 xs) (zs : List Str) (hz : Nms zs) (hl : zs.length ≤ 16) (r : Bool) (sh : Int) (ρ : Rho) (h : JT xs zs r sh zs.length ρ) : Ev (b_SE ρ) (fun q => ∃ d ρ, Sub d ∧ q = .ret (.v d) ρ) := by
  obtain ⟨ts, v6, v7, v8, v9, v10, v11, v12, h0, hok, rfl⟩ := h
  rw [List.take_length] at h0
  have hlen : ts.length = zs.length := by have := congrArg List.length h0; rw [List.length_map] at this; exact this
  obtain ⟨x, x0, x1', gx⟩ := num_at hx 19 (by omega) (by omega)
  have rest := fun ts p v6 v7 v8 v9 v10 v11 v12 => s_SF hx zs hz hl r sh _ ts h0 hok p v7 v8 v9 v10 v11 v12 v6
  simp only [b_SE]
  rw [← b_SF]
  generalize b_SF = TT at rest
  by_cases c : 0 < zs.length
  · have hne : ¬ zs = [] := fun e => by rw [e] at c; cases c
    have lb : 0 ≤ x % (zs.length : Int) := Int.emod_nonneg _ (by omega)
    have ll := Int.emod_lt_of_pos x (show (0 : Int) < zs.length by omega)
    simp [sT, gx, c, hne]
    generalize x % (zs.length : Int) = p at *
    have hle : ts.length - p.toNat + min p.toNat ts.length ≤ 16777216 := by omega
    obtain ⟨q, e, d, ρ, hS, rfl⟩ := rest (ts.drop p.toNat ++ ts.take p.toNat) (rot ts p.toNat) v6 v7 v8 v9 (some (.v (.int p))) v11 v12
    simp [sT] at e
    simp [cutG_from lb, cutG_to lb, hle, e]
    exact hS
  · have e0 : zs = [] := List.length_eq_zero_iff.mp (by omega)
    obtain ⟨q, e, d, ρ, hS, rfl⟩ := rest ts (List.Perm.refl _) v6 v7 v8 v9 v10 v11 v12
    subst e0
    simp [sT] at e
    simp [sT, e]
    exact hS
theorem s_subject {xs : List Int} (hx : Nums 110 xs) : ∃ d, Sub d ∧ m__law_subject [.lst (xs.map .int)] = .ok (.v d) := by
  have key : Ev (m__law_subject [.lst (xs.map .int)]) (fun s => ∃ d, Sub d ∧ s = .v d) := by
    obtain ⟨x16, a0, a1, g16⟩ := num_at hx 16 (by omega) (by omega)
    obtain ⟨x17, b0, b1, g17⟩ := num_at hx 17 (by omega) (by omega)
    obtain ⟨x18, c0, c1, g18⟩ := num_at hx 18 (by omega) (by omega)
    have hk0 : 0 ≤ x16 % 17 := by omega
    have ct : cutG (xs.map D.int) (some 0) (some (x16 % 17)) = (xs.take (x16 % 17).toNat).map D.int := by
      rw [cutG_mid (by omega) hk0]
      simp
    have hyl : (xs.take (x16 % 17).toNat).length ≤ 16 := by simp; omega
    obtain ⟨zs, hn, nd, hzl, _, ep⟩ := s_pool (xs.take (x16 % 17).toNat) (fun x hx' => hx.2 x (List.mem_of_mem_take hx')) (by omega)
    have hl : zs.length ≤ 16 := by omega
    have hz : Nms zs := ⟨hn, nd⟩
    have x1 := x_int1' (zs.length : Int) (by omega)
    have rest := fun r sh ρ h => s_SE hx zs hz hl r sh ρ h
    simp only [m__law_subject, b__law_subject]
    rw [← b_SE]
    generalize b_SE = TT at rest
    simp at ep
    simp at ct
    simp [g16, ct, ep, g17, g18, x1]
    refine rg_v (J := JT xs zs (decide (x17 % 4 = 0)) (1 + x18 % 3)) ⟨[], none, none, none, none, none, none, none, by simp, by simp, by simp [sT]⟩ ?_ ?_
    · intro i ρ hi h
      have t := f2_turn hx zs hz hl _ _ i hi ρ h
      obtain ⟨q, e, ρ', rfl, h2⟩ := t
      obtain ⟨ts, v6, v7, v8, v9, v10, v11, v12, _, _, rfl⟩ := h
      simp [sT] at e
      simp [sT, e]
      exact h2
    · intro ρ h
      obtain ⟨q, e, d, ρ', hS, rfl⟩ := rest _ _ ρ h
      simp [e]
      exact hS
  obtain ⟨s, e, d, h, rfl⟩ := key
  exact ⟨d, h, e⟩
end K68

namespace K68
open PL PySem Std
open FF (Nums divS)
def iD (ps : List Int) : D := .tup (ps.map .int)
def b_CT : Sx := sSeq (sSet [] 6 (e2 dIx (eVar 3) (e2 dMod (eB dInt1 (aCons (eVar 2) (aNil))) (eB dLen1 (aCons (eVar 3) (aNil)))))) (sSeq (sFor (iRg1 (aCons (eB dLen1 (aCons (eVar 6) (aNil))) (aNil))) (gNm [] 7) b__law_starts_to_try_f6) (sRet [] (eVar 3)))
def JC (A B C : Option S) (v4 v5 : Option S) (base : List Int) (i : Nat) (ρ : Rho) : Prop :=
  ∃ (pss : List (List Int)) (v7 v8 : Option S), pss.length ≤ 5 + 6 * i ∧ ρ = [A, B, C, some (.o (.lst (pss.map iD))), v4, v5, some (.v (iD base)), v7, v8, none]
theorem f5_turn (A B C v4 v5 : Option S) (base : List Int) (hb : base.length ≤ 16) (at' : Nat) (ha : at' < base.length) (st : Int) (pss : List (List Int)) (hl : pss.length < 1000) :
    ∃ ps, b__law_starts_to_try_f5 [A, B, C, some (.o (.lst (pss.map iD))), v4, v5, some (.v (iD base)), some (.v (.int (at' : Int))), some (.v (.int st)), none] =
      .ok (.next [A, B, C, some (.o (.lst ((pss ++ [ps]).map iD))), v4, v5, some (.v (iD base)), some (.v (.int (at' : Int))), some (.v (.int st)), none]) := by
  have g : L2.atI (base.map D.int) (at' : Int) = some (.int base[at']) := atI_ofNat _ _ _ (by simp [ha])
  have c1 : cutG (base.map D.int) none (some (at' : Int)) = (base.map D.int).take at' := by rw [cutG_to (by omega)]; simp
  have c2 : cutG (base.map D.int) (some ((at' : Int) + 1)) none = (base.map D.int).drop (at' + 1) := by rw [cutG_from (by omega)]; congr 1
  have l1 : min at' base.length + 1 ≤ 16777216 := by omega
  have l1' : min at' base.length ≤ 16777215 := by omega
  have l2 : min at' base.length + 1 + (base.length - (at' + 1)) ≤ 16777216 := by omega
  have l3 : min at' base.length + (base.length - (at' + 1) + 1) ≤ 16777216 := by omega
  have hl' : pss.length < 16777216 := by omega
  refine ⟨base.take at' ++ [base[at'] + st] ++ base.drop (at' + 1), ?_⟩
  simp [b__law_starts_to_try_f5, iD, g, c1, c2, l1, l1', l2, l3, hl']
def JD (A B C : Option S) (v4 v5 : Option S) (base : List Int) (at' : Nat) (n : Nat) (ρ : Rho) : Prop :=
  ∃ (pss : List (List Int)) (v8 : Option S), pss.length ≤ n ∧ ρ = [A, B, C, some (.o (.lst (pss.map iD))), v4, v5, some (.v (iD base)), some (.v (.int (at' : Int))), v8, none]
theorem f6_turn (A B C v4 v5 : Option S) (base : List Int) (hb : base.length ≤ 16) (at' : Nat) (ha : at' < base.length) (pss : List (List Int)) (hl : pss.length ≤ 5 + 6 * at') (v8 : Option S) :
    Ev (b__law_starts_to_try_f6 [A, B, C, some (.o (.lst (pss.map iD))), v4, v5, some (.v (iD base)), some (.v (.int (at' : Int))), v8, none]) (fun q => ∃ ρ, q = .next ρ ∧ JC A B C v4 v5 base (at' + 1) ρ) := by
  have c1 : cutG (base.map D.int) none (some (at' : Int)) = (base.map D.int).take at' := by rw [cutG_to (by omega)]; simp
  have c2 : cutG (base.map D.int) (some ((at' : Int) + 1)) none = (base.map D.int).drop (at' + 1) := by rw [cutG_from (by omega)]; congr 1
  have c3 : cutG (base.map D.int) none (some ((at' : Int) + 1)) = (base.map D.int).take (at' + 1) := by rw [cutG_to (by omega)]; congr 1
  have c4 : cutG (base.map D.int) (some (at' : Int)) none = (base.map D.int).drop at' := by rw [cutG_from (by omega)]; simp
  have l1 : min at' base.length + (base.length - (at' + 1)) ≤ 16777216 := by omega
  have l2 : min (at' + 1) base.length + (base.length - at') ≤ 16777216 := by omega
  simp [b__law_starts_to_try_f6]
  refine lp_v [-1, 1, -100, 100] (h := D.int) (J := fun i ρ => JD A B C v4 v5 base at' (pss.length + i) ρ) (by simp) ⟨pss, v8, by omega, rfl⟩ ?_ ?_
  · rintro i x _ hx ⟨qss, v8, hq, rfl⟩
    have hi : i < 4 := (List.getElem?_eq_some_iff.mp hx).1
    obtain ⟨ps, e⟩ := f5_turn A B C v4 v5 base hb at' ha x qss (by omega)
    simp [e]
    exact ⟨qss ++ [ps], some (.v (.int x)), by simp; omega, by simp⟩
  · rintro _ ⟨qss, v8, hq, rfl⟩
    have hq : qss.length ≤ pss.length + 4 := hq
    have k1 : qss.length < 16777216 := by omega
    have k2 : qss.length + 1 < 16777216 := by omega
    simp [iD, c1, c2, c3, c4, l1, l2, k1, k2]
    exact ⟨qss ++ [base.take at' ++ base.drop (at' + 1), base.take (at' + 1) ++ base.drop at'], some (.v (.int (at' : Int))), v8, by simp; omega, by simp [iD]⟩
theorem s_CT (A B : Option S) (v4 v5 : Option S) (n : Int) (pss : List (List Int)) (h0 : 0 < pss.length) (h5 : pss.length ≤ 5) (h16 : ∀ ps ∈ pss, ps.length ≤ 16) :
    Ev (b_CT [A, B, some (.v (.int n)), some (.o (.lst (pss.map iD))), v4, v5, none, none, none, none]) (fun q => ∃ (pss : List (List Int)) (ρ : Rho), q = .ret (.o (.lst (pss.map iD))) ρ ∧ pss.length ≤ 1000) := by
  have lb : 0 ≤ n % (pss.length : Int) := Int.emod_nonneg _ (by omega)
  have ll := Int.emod_lt_of_pos n (show (0 : Int) < pss.length by omega)
  have hne : ¬ pss = [] := fun e => by rw [e] at h0; cases h0
  obtain ⟨base, g, m⟩ := atI_ex (xs := pss) lb ll
  have hb := h16 base m
  have g := atI_map' iD g
  have x1 := x_int1' (base.length : Int) (by omega)
  have el : dLen1 [iD base] = some (.v (.int (base.length : Int))) := by simp [iD]
  simp [b_CT, h0, hne, g, el, x1]
  refine rg_v (J := JC A B (some (.v (.int n))) v4 v5 base) ⟨pss, none, none, by omega, rfl⟩ ?_ ?_
  · rintro i _ hi ⟨qss, v7, v8, hq, rfl⟩
    obtain ⟨q, e, ρ, rfl, h2⟩ := f6_turn A B (some (.v (.int n))) v4 v5 base hb i hi qss hq v8
    simp [e]
    exact h2
  · rintro _ ⟨qss, v7, v8, hq, rfl⟩
    simp
    exact ⟨qss, rfl, by omega⟩
theorem s_starts (ts : List Ta) (h : Good ts) (due n : Int) : ∃ pss : List (List Int), pss.length ≤ 1000 ∧ m__law_starts_to_try [.tup (ts.map tD), .int due, .int n] = .ok (.o (.lst (pss.map iD))) := by
  have hL := h.len
  obtain ⟨T, hT⟩ := exists_T ts h.nd
  have key : Ev (m__law_starts_to_try [.tup (ts.map tD), .int due, .int n]) (fun s => ∃ pss : List (List Int), pss.length ≤ 1000 ∧ s = .o (.lst (pss.map iD))) := by
    obtain ⟨s1, e1, h1⟩ := s_earliest ts h T hT
    obtain ⟨s2, e2, f2, rfl⟩ := s_latest ts h T hT due
    have rest := fun v4 v5 pss a b c => s_CT (some (.v (.tup (ts.map tD)))) (some (.v (.int due))) v4 v5 n pss a b c
    have z0 : D.tup (ts.map fun _ => .int 0) = iD (ts.map fun _ => 0) := by simp [iD]
    simp only [m__law_starts_to_try, b__law_starts_to_try]
    rw [← b_CT]
    generalize b_CT = TT at rest
    simp [x_eLc]
    refine lm_v ts (fun t => .int 0) (h := tD) rfl (by omega) (fun t ht => ?_) ?_
    · simp [b__law_starts_to_try_c1]
    have item : ∀ (f : Str → Int) (t : Ta), t ∈ ts → gGet false (mpD (ts.map (·.n)) fun z => .int (f z)) [.inr t.n] = some (.int (f t.n)) := fun f t ht => nGet _ f (List.mem_map_of_mem (f := fun t : Ta => t.n) ht)
    rcases h1 with rfl | ⟨f1, _, rfl⟩
    · simp [e1, e2, x_eLc]
      refine lm_v ts (fun t => .int (f2 t.n)) (h := tD) rfl (by omega) (fun t ht => ?_) ?_
      · simp [b__law_starts_to_try_c4, tD, nD, item f2 t ht]
      · obtain ⟨q, e, pss, ρ, rfl, hp⟩ := rest (some (.v .non)) (some (.o (nD (ts.map (·.n)) f2))) [[], ts.map fun _ => 0, ts.map fun t => f2 t.n] (by simp) (by simp) (by simp; omega)
        simp [iD, Function.comp_def] at e
        simp [e]
        exact ⟨pss, hp, by simp [iD]⟩
    · simp [e1, e2, nD, isnD, x_eLc]
      refine lm_v ts (fun t => .int (f1 t.n)) (h := tD) rfl (by omega) (fun t ht => ?_) ?_
      · simp [b__law_starts_to_try_c2, tD, item f1 t ht]
      simp [x_eLc]
      refine lm_v ts (fun t => .int ((f1 t.n + f2 t.n) / 2)) (h := tD) rfl (by omega) (fun t ht => ?_) ?_
      · have d2 := divS (f1 t.n + f2 t.n) (b := 2) (by omega) (by omega)
        simp [-x_div, b__law_starts_to_try_c3, tD, item f1 t ht, item f2 t ht, d2]
      simp [x_eLc]
      refine lm_v ts (fun t => .int (f2 t.n)) (h := tD) rfl (by omega) (fun t ht => ?_) ?_
      · simp [b__law_starts_to_try_c4, tD, item f2 t ht]
      · obtain ⟨q, e, pss, ρ, rfl, hp⟩ := rest (some (.o (nD (ts.map (·.n)) f1))) (some (.o (nD (ts.map (·.n)) f2))) [[], ts.map fun _ => 0, ts.map fun t => f1 t.n, ts.map fun t => (f1 t.n + f2 t.n) / 2, ts.map fun t => f2 t.n] (by simp) (by simp) (by simp; omega)
        simp [iD, nD, Function.comp_def] at e
        simp [e]
        exact ⟨pss, hp, by simp [iD]⟩
  obtain ⟨s, e, pss, h, rfl⟩ := key
  exact ⟨pss, h, e⟩
end K68

namespace K68
open PL PySem Std
open FF (Nums divS)
theorem s_stranger (zs : List Str) (hz : ∀ z ∈ zs, Nam z) : ∃ z, Nam z ∧ m__law_stranger [.lst (zs.map .str)] = .ok (.v (.str z)) := by
  have key : Ev (m__law_stranger [.lst (zs.map .str)]) (fun s => ∃ z, Nam z ∧ s = .v (.str z)) := by
    have hit : dIter (.str "abcdefghijklmnopqrstuvwxyz") = some ((List.range 26).map fun k => D.str ⟨#[97 + k]⟩) := by
      simp only [x_itZ]
      have : (Str.ofString "abcdefghijklmnopqrstuvwxyz").cps.toList = (List.range 26).map fun k => 97 + k := by decide +kernel
      rw [this, List.map_map]
      rfl
    simp [-x_itZ, m__law_stranger, b__law_stranger, hit]
    refine lp_v (h := fun k => D.str ⟨#[97 + k]⟩) (List.range 26) (fun i ρ => ∃ v1, ρ = [some (.v (.lst (zs.map .str))), v1]) rfl ⟨none, rfl⟩ ?_ ?_
    · rintro i k _ hk ⟨v1, rfl⟩
      have hk : k < 26 := by simpa using List.mem_of_getElem? hk
      have nz : Nam ⟨((97 + k) :: [48, 122]).toArray⟩ := ⟨97 + k, [48, 122], rfl, by simp [letC]; omega, by simp, by decide⟩
      have ad : dAdd (.str ⟨#[97 + k]⟩) (.str "0z") = some (.v (.str ⟨((97 + k) :: [48, 122]).toArray⟩)) := by
        have hlen : (Str.mk #[97 + k]).length + (Str.ofString "0z").length ≤ 16777216 := by
          have : (Str.ofString "0z").length = 2 := by decide +kernel
          have : (Str.mk #[97 + k]).length = 1 := rfl
          omega
        rw [x_addZ, if_pos hlen]
        have : (Str.ofString "0z") = ⟨#[48, 122]⟩ := by decide +kernel
        rw [this]
        show some (S.v (D.str ⟨#[97 + k] ++ #[48, 122]⟩)) = _
        simp
      have im := in_strsL nz.ok (fun z h => (hz z h).ok)
      generalize (⟨((97 + k) :: [48, 122]).toArray⟩ : Str) = y at ad im nz
      by_cases q : y ∈ zs
      · simp [-x_addZ, b__law_stranger_f1, ad, im, q]
      · simp [-x_addZ, b__law_stranger_f1, ad, im, q]
        exact nz
    · rintro _ ⟨v1, rfl⟩
      have nz : Nam "zzzzzzzz" := ⟨122, [122, 122, 122, 122, 122, 122, 122], by decide +kernel, by decide, by decide, by decide⟩
      simp
      exact nz
  obtain ⟨s, e, z, hz, rfl⟩ := key
  exact ⟨z, hz, e⟩
def nmD (zs : List Str) : D := .tup (zs.map .str)
/-- what the rows tell -/
structure Rows (K : List Str) (T : Str → Ta) : Prop where
  nam : ∀ z ∈ K, Nam z
  sub : ∀ z ∈ K, ∀ y ∈ (T z).a, y ∈ K
  len : ∀ z ∈ K, (T z).a.length ≤ 16
  kl : K.length ≤ 16
theorem rows_of {ts : List Ta} (h : Good ts) {T : Str → Ta} (hT : ∀ t ∈ ts, T t.n = t) : Rows (ts.map (·.n)) T := by
  refine ⟨fun z hz => h.mem hz, fun z hz => ?_, fun z hz => ?_, by simp; exact h.len⟩
  · obtain ⟨t, ht, rfl⟩ := List.mem_map.mp hz
    rw [hT t ht]
    exact (h.aft t ht).2.2
  · obtain ⟨t, ht, rfl⟩ := List.mem_map.mp hz
    rw [hT t ht]
    exact (h.aft t ht).2.1
def JW (A B C E : Option S) (K : List Str) (i : Nat) (ρ : Rho) : Prop :=
  ∃ (w : List Str) (dg : Int) (v6 v7 : Option S), 0 < w.length ∧ w.length ≤ 1 + i ∧ (∀ z ∈ w, z ∈ K) ∧ ρ = [A, B, C, E, some (.o (.lst (w.map .str))), some (.v (.int dg)), v6, v7, none]
theorem s_walk {K : List Str} {T : Str → Ta} (R : Rows K T) (z : Str) (hz : z ∈ K) (n m : Int) : ∃ w : List Str, (∀ z ∈ w, z ∈ K) ∧ w.length ≤ 17 ∧ m__law_walk [rowsD K T, .str z, .int n, .int m] = .ok (.v (nmD w)) := by
  have gg : ∀ z, z ∈ K → gGet false (mpD K fun z => tD (T z)) [.inr z] = some (.tup [.str (T z).n, .int (T z).d, .tup ((T z).a.map .str)]) := fun z hz => by have := gGet_mp (fun z => tD (T z)) z K; rw [if_pos hz] at this; exact this
  have key : Ev (m__law_walk [rowsD K T, .str z, .int n, .int m]) (fun s => ∃ w : List Str, (∀ z ∈ w, z ∈ K) ∧ w.length ≤ 17 ∧ s = .v (nmD w)) := by
    have x1 := x_int1' 16 (by omega)
    simp only [m__law_walk, b__law_walk]
    generalize hN : (16 : Int) = N at x1
    simp [x1]
    rw [← hN]
    refine rg_v (J := JW (some (.v (rowsD K T))) (some (.v (.str z))) (some (.v (.int n))) (some (.v (.int m))) K) ⟨[z], n, none, none, by simp, by simp, by simpa using hz, rfl⟩ ?_ ?_
    · rintro i _ hi ⟨w, dg, v6, v7, w0, wl, hw, rfl⟩
      have hi : i < 16 := hi
      have p0 : L2.atI (w.map D.str) 0 = some (.str (w.getD 0 "")) := at_str w 0 w0
      have m0 := hw _ (getD_mem w 0 w0)
      generalize w.getD 0 "" = y at p0 m0
      have d3 := divS dg (b := 3) (by omega) (by omega)
      have al := R.len y m0
      simp [-x_div, b__law_walk_f2, p0, rowsD, gg y m0, x_eLc]
      refine lc_a (T y).a (fun x => !decide (x ∈ w)) D.str (h := D.str) rfl (by omega) (fun x hx => ?_) ?_
      · have i1 := in_strsL (Nam.ok (R.nam x (R.sub y m0 x hx))) (fun q hq => Nam.ok (R.nam q (hw q hq)))
        by_cases q : x ∈ w <;> simp [i1, q, b__law_walk_c1]
      · have fl : ((T y).a.filter fun x => !decide (x ∈ w)).length ≤ 16 := Nat.le_trans (List.length_filter_le ..) al
        have fm : ∀ x ∈ (T y).a.filter (fun x => !decide (x ∈ w)), x ∈ K := fun x hx => R.sub y m0 x (List.mem_filter.mp hx).1
        generalize (T y).a.filter (fun x => !decide (x ∈ w)) = F at fl fm ⊢
        by_cases c : 0 < F.length ∧ (w.length : Int) < m
        · obtain ⟨c1, c2⟩ := c
          have hne : ¬ F = [] := fun e => by rw [e] at c1; cases c1
          have lb : 0 ≤ dg % (F.length : Int) := Int.emod_nonneg _ (by omega)
          have ll := Int.emod_lt_of_pos dg (show (0 : Int) < F.length by omega)
          obtain ⟨x, gx, mx⟩ := atI_ex (xs := F) lb ll
          have gx := atI_map' D.str gx
          have hl1 : 1 + w.length ≤ 16777216 := by omega
          have hl2 : w.length + 1 ≤ 16777216 := by omega
          have hl3 : w.length < 16777216 := by omega
          simp [-x_div, c1, c2, hne, gx, hl1, hl2, hl3, d3]
          exact ⟨x :: w, _, _, _, by simp, by simp; omega, fun q hq => by
            rcases List.mem_cons.mp hq with e | hq
            · subst e; exact fm _ mx
            · exact hw q hq, rfl⟩
        · by_cases c1 : 0 < F.length
          · have c2 : ¬ (w.length : Int) < m := fun q => c ⟨c1, q⟩
            have hne : ¬ F = [] := fun e => by rw [e] at c1; cases c1
            simp [-x_div, c1, c2, hne, d3]
            exact ⟨w, _, _, _, w0, by omega, hw, rfl⟩
          · have e : F = [] := List.length_eq_zero_iff.mp (by omega)
            subst e
            simp [-x_div, d3]
            exact ⟨w, _, _, _, w0, by omega, hw, rfl⟩
    · rintro _ ⟨w, dg, v6, v7, w0, wl, hw, rfl⟩
      simp
      exact ⟨w, hw, by have : w.length ≤ 1 + 16 := wl; omega, rfl⟩
  obtain ⟨s, e, w, h1, h2, rfl⟩ := key
  exact ⟨w, h1, h2, e⟩
end K68

namespace K68
open PL PySem Std
open FF (Nums divS)
structure Pap (w : List Str) : Prop where
  nam : ∀ z ∈ w, Nam z
  len : w.length ≤ 18
def b_NT : Sx := sSeq (sSet [] 6 (e2 dIx (eVar 4) (e2 dMod (eB dInt1 (aCons (e2 dIx (eVar 1) (eC (.int 16))) (aNil))) (eB dLen1 (aCons (eVar 4) (aNil)))))) (sSeq (sSet [] 7 (eCall [] 1 m__law_stranger (aCons (eLc [] [3] (iVal [] (eVar 0)) (gNm [] 3) (tsNo) b__law_names_to_try_c4) (aNil)))) (sSeq (sFor (iRg1 (aCons (eB dLen1 (aCons (eVar 6) (aNil))) (aNil))) (gNm [] 8) b__law_names_to_try_f5) (sSeq (sEx (eMl [] 4 mAppend (aCons (eB dTup1 (aCons (eLc [] [5] (iRg1 (aCons (eB dLen1 (aCons (eVar 6) (aNil))) (aNil))) (gNm [] 5) (tsNo) b__law_names_to_try_c6) (aNil))) (aNil)))) (sSeq (sEx (eMl [] 4 mAppend (aCons (eTup [] (aCons (eVar 7) (aNil))) (aNil)))) (sRet [] (eVar 4))))))
def JP (A B C v3 v5 v9 : Option S) (base : List Str) (other : Str) (i : Nat) (ρ : Rho) : Prop :=
  ∃ (zss : List (List Str)) (v8 : Option S), (∀ w ∈ zss, Pap w) ∧ zss.length ≤ 34 + 5 * i ∧ ρ = [A, B, C, v3, some (.o (.lst (zss.map nmD))), v5, some (.v (nmD base)), some (.v (.str other)), v8, v9]
theorem n5_turn (A B C v3 v5 v9 : Option S) (base : List Str) (hb : base.length ≤ 17) (hn : ∀ z ∈ base, Nam z) (other : Str) (ho : Nam other) (i : Nat) (hi : i < base.length) (zss : List (List Str)) (hz : ∀ w ∈ zss, Pap w) (hl : zss.length ≤ 34 + 5 * i) :
    Ev (b__law_names_to_try_f5 [A, B, C, v3, some (.o (.lst (zss.map nmD))), v5, some (.v (nmD base)), some (.v (.str other)), some (.v (.int (i : Int))), v9]) (fun q => ∃ ρ, q = .next ρ ∧ JP A B C v3 v5 v9 base other (i + 1) ρ) := by
  have c1 : cutG (base.map D.str) none (some (i : Int)) = (base.map D.str).take i := by rw [cutG_to (by omega)]; simp
  have c2 : cutG (base.map D.str) (some ((i : Int) + 1)) none = (base.map D.str).drop (i + 1) := by rw [cutG_from (by omega)]; congr 1
  have c3 : cutG (base.map D.str) none (some ((i : Int) + 1)) = (base.map D.str).take (i + 1) := by rw [cutG_to (by omega)]; congr 1
  have c4 : cutG (base.map D.str) (some (i : Int)) none = (base.map D.str).drop i := by rw [cutG_from (by omega)]; simp
  have l1 : min i base.length + (base.length - (i + 1)) ≤ 16777216 := by omega
  have l2 : base.length - i + min i base.length ≤ 16777216 := by omega
  have l3 : min (i + 1) base.length + (base.length - i) ≤ 16777216 := by omega
  have l4 : min i base.length + 1 + (base.length - (i + 1)) ≤ 16777216 := by omega
  have l4' : min i base.length + 1 ≤ 16777216 := by omega
  have l4'' : min i base.length ≤ 16777215 := by omega
  have l5 : min i base.length + (base.length - (i + 1) + 1) ≤ 16777216 := by omega
  have k : ∀ n, n ≤ 10 → zss.length + n < 16777216 := fun n hn => by omega
  have k0 := k 0 (by omega)
  have k1 := k 1 (by omega)
  have k2 := k 2 (by omega)
  have k3 := k 3 (by omega)
  have k4 := k 4 (by omega)
  simp at k0
  have tk : ∀ n, ∀ z ∈ base.take n, Nam z := fun n z q => hn z (List.mem_of_mem_take q)
  have dk : ∀ n, ∀ z ∈ base.drop n, Nam z := fun n z q => hn z (List.mem_of_mem_drop q)
  have ap : ∀ (a b : List Str), (∀ z ∈ a, Nam z) → (∀ z ∈ b, Nam z) → ∀ z ∈ a ++ b, Nam z := fun a b ha hb z q => by
    rcases List.mem_append.mp q with q | q
    · exact ha z q
    · exact hb z q
  simp [b__law_names_to_try_f5, nmD, c1, c2, c3, c4, l1, l2, l3, l4, l4', l4'', l5, k0, k1, k2, k3, k4]
  refine ⟨zss ++ [base.take i ++ base.drop (i + 1), base.drop i ++ base.take i, base.take (i + 1) ++ base.drop i, base.take i ++ [other] ++ base.drop (i + 1), base.take i], some (.v (.int (i : Int))), ?_, by simp; omega, by simp [nmD]⟩
  intro w hw
  rcases List.mem_append.mp hw with hw | hw
  · exact hz w hw
  · simp only [List.mem_cons, List.not_mem_nil, or_false] at hw
    rcases hw with rfl | rfl | rfl | rfl | rfl
    · exact ⟨ap _ _ (tk _) (dk _), by simp; omega⟩
    · exact ⟨ap _ _ (dk _) (tk _), by simp; omega⟩
    · exact ⟨ap _ _ (tk _) (dk _), by simp; omega⟩
    · exact ⟨ap _ _ (ap _ _ (tk _) (by simpa using ho)) (dk _), by simp; omega⟩
    · exact ⟨tk _, by simp; omega⟩
theorem rev_str (base : List Str) : (List.range base.length).map (fun k => D.str (base.getD (base.length - 1 - k) "")) = base.reverse.map D.str := by
  apply List.ext_getElem
  · simp
  · intro k h1 h2
    have hk : k < base.length := by simpa using h1
    have : base.length - 1 - k < base.length := by omega
    simp [List.getElem_reverse, List.getD_eq_getElem?_getD, this]
def Papers (s : S) : Prop := ∃ zss : List (List Str), (∀ w ∈ zss, Pap w) ∧ 0 < zss.length ∧ zss.length ≤ 1000 ∧ s = .o (.lst (zss.map nmD))
theorem s_NT (ts : List Ta) (h : Good ts) (ys : List Int) (hy : ys.length = 17) (v2 v3 v5 v9 : Option S) (hv : (v3 = none ∧ v5 = none) ∨ ∃ d3 d5, v3 = some (.v d3) ∧ v5 = some (.v d5)) (zss : List (List Str)) (h0 : 0 < zss.length) (h5 : zss.length ≤ 34) (hp : ∀ w ∈ zss, Pap w ∧ w.length ≤ 17) :
    Ev (b_NT [some (.v (.tup (ts.map tD))), some (.v (.lst (ys.map .int))), v2, v3, some (.o (.lst (zss.map nmD))), v5, none, none, none, v9]) (fun q => ∃ s ρ, Papers s ∧ q = .ret s ρ) := by
  have hL := h.len
  obtain ⟨y, gy, _⟩ := atI_ex (xs := ys) (i := 16) (by omega) (by omega)
  have gy := atI_map' D.int gy
  have lb : 0 ≤ y % (zss.length : Int) := Int.emod_nonneg _ (by omega)
  have ll := Int.emod_lt_of_pos y (show (0 : Int) < zss.length by omega)
  have hne : ¬ zss = [] := fun e => by rw [e] at h0; cases h0
  obtain ⟨base, g, m⟩ := atI_ex (xs := zss) lb ll
  obtain ⟨⟨bn, _⟩, b17⟩ := hp base m
  have g := atI_map' nmD g
  have x1 := x_int1' (base.length : Int) (by omega)
  have el : dLen1 [nmD base] = some (.v (.int (base.length : Int))) := by simp [nmD]
  obtain ⟨other, ho, eo⟩ := s_stranger (ts.map (·.n)) (fun z hz => h.mem hz)
  rw [List.map_map] at eo
  rcases hv with ⟨rfl, rfl⟩ | ⟨d3, d5, rfl, rfl⟩
  · simp [b_NT, gy, h0, hne, g, el, x1, x_eLc]
    refine lm_v ts (fun t => .str t.n) (h := tD) rfl (by omega) (fun t ht => ?_) ?_
    · simp [b__law_names_to_try_c4, tD]
    have eo : m__law_stranger [.lst (ts.map fun t => .str t.n)] = .ok (.v (.str other)) := eo
    simp [eo, el, x1]
    refine rg_v (J := JP (some (.v (.tup (ts.map tD)))) (some (.v (.lst (ys.map .int)))) v2 none none v9 base other) ⟨zss, none, fun w hw => (hp w hw).1, by omega, rfl⟩ ?_ ?_
    · rintro i _ hi ⟨zss, v8, hz, hl, rfl⟩
      obtain ⟨q, e, ρ, rfl, h2⟩ := n5_turn (some (.v (.tup (ts.map tD)))) (some (.v (.lst (ys.map .int)))) v2 none none v9 base b17 bn other ho i hi zss hz hl
      simp [e]
      exact h2
    · rintro _ ⟨zss, v8, hz, hl, rfl⟩
      have k0 : zss.length < 16777216 := by omega
      have k1 : zss.length + 1 < 16777216 := by omega
      have k2 : zss.length < 16777215 := by omega
      simp [el, x1, x_eLc]
      refine lm_v (List.range base.length) (fun k => D.str (base.getD (base.length - 1 - k) "")) (h := fun k : Nat => D.int (0 + (k : Int))) rfl (by simp; omega) (fun k hk => ?_) ?_
      · have hk : k < base.length := by simpa using hk
        have a := at_str base (base.length - 1 - k) (by omega)
        rw [show ((base.length - 1 - k : Nat) : Int) = (base.length : Int) - 1 - (k : Int) by omega] at a
        simp [b__law_names_to_try_c6, el, nmD]
        simp [nmD] at a
        simp [a]
      · rw [rev_str]
        simp [k0, k1, k2]
        refine ⟨zss ++ [base.reverse, [other]], ?_, by simp, by simp; omega, by simp [nmD]⟩
        intro w hw
        rcases List.mem_append.mp hw with hw | hw
        · exact hz w hw
        · simp only [List.mem_cons, List.not_mem_nil, or_false] at hw
          rcases hw with rfl | rfl
          · exact ⟨fun z hz => bn z (by simpa using hz), by simp; omega⟩
          · exact ⟨by simpa using ho, by simp⟩
  · simp [b_NT, gy, h0, hne, g, el, x1, x_eLc]
    refine lm_v ts (fun t => .str t.n) (h := tD) rfl (by omega) (fun t ht => ?_) ?_
    · simp [b__law_names_to_try_c4, tD]
    have eo : m__law_stranger [.lst (ts.map fun t => .str t.n)] = .ok (.v (.str other)) := eo
    simp [eo, el, x1]
    refine rg_v (J := JP (some (.v (.tup (ts.map tD)))) (some (.v (.lst (ys.map .int)))) v2 (some (.v d3)) (some (.v d5)) v9 base other) ⟨zss, none, fun w hw => (hp w hw).1, by omega, rfl⟩ ?_ ?_
    · rintro i _ hi ⟨zss, v8, hz, hl, rfl⟩
      obtain ⟨q, e, ρ, rfl, h2⟩ := n5_turn (some (.v (.tup (ts.map tD)))) (some (.v (.lst (ys.map .int)))) v2 (some (.v d3)) (some (.v d5)) v9 base b17 bn other ho i hi zss hz hl
      simp [e]
      exact h2
    · rintro _ ⟨zss, v8, hz, hl, rfl⟩
      have k0 : zss.length < 16777216 := by omega
      have k1 : zss.length + 1 < 16777216 := by omega
      have k2 : zss.length < 16777215 := by omega
      simp [el, x1, x_eLc]
      refine lm_v (List.range base.length) (fun k => D.str (base.getD (base.length - 1 - k) "")) (h := fun k : Nat => D.int (0 + (k : Int))) rfl (by simp; omega) (fun k hk => ?_) ?_
      · have hk : k < base.length := by simpa using hk
        have a := at_str base (base.length - 1 - k) (by omega)
        rw [show ((base.length - 1 - k : Nat) : Int) = (base.length : Int) - 1 - (k : Int) by omega] at a
        simp [b__law_names_to_try_c6, el, nmD]
        simp [nmD] at a
        simp [a]
      · rw [rev_str]
        simp [k0, k1, k2]
        refine ⟨zss ++ [base.reverse, [other]], ?_, by simp, by simp; omega, by simp [nmD]⟩
        intro w hw
        rcases List.mem_append.mp hw with hw | hw
        · exact hz w hw
        · simp only [List.mem_cons, List.not_mem_nil, or_false] at hw
          rcases hw with rfl | rfl
          · exact ⟨fun z hz => bn z (by simpa using hz), by simp; omega⟩
          · exact ⟨by simpa using ho, by simp⟩
def JK (ts : List Ta) (ys : List Int) (K : List Str) (T : Str → Ta) (i : Nat) (ρ : Rho) : Prop :=
  ∃ (zss : List (List Str)) (v2 : S) (v3 v5 v9 : Option S), (v2 = .o (rowsD K T) ∨ v2 = .v (rowsD K T)) ∧ (i ≠ 0 → ∃ d3 d5, v3 = some (.v d3) ∧ v5 = some (.v d5)) ∧ (i = 0 → v5 = none ∧ (ts = [] → v3 = none)) ∧ (ts ≠ [] → ∃ d3, v3 = some (.v d3)) ∧ zss.length = 2 + 2 * i ∧ (∀ w ∈ zss, Pap w ∧ w.length ≤ 17) ∧
    ρ = [some (.v (.tup (ts.map tD))), some (.v (.lst (ys.map .int))), some v2, v3, some (.o (.lst (zss.map nmD))), v5, none, none, none, v9]
theorem f3_turn (ts : List Ta) (h : Good ts) (T : Str → Ta) (hT : ∀ t ∈ ts, T t.n = t) (ys : List Int) (hy : ys.length = 17) (i : Nat) (hi : i < ts.length) (v2 : S) (hv : v2 = .o (rowsD (ts.map (·.n)) T) ∨ v2 = .v (rowsD (ts.map (·.n)) T)) (d3 : D) (v9 : Option S) (zss : List (List Str)) (hl : zss.length = 2 + 2 * i) (hp : ∀ w ∈ zss, Pap w ∧ w.length ≤ 17) :
    Ev (b__law_names_to_try_f3 [some (.v (.tup (ts.map tD))), some (.v (.lst (ys.map .int))), some v2, some (.v d3), some (.o (.lst (zss.map nmD))), some (.v (.int (i : Int))), none, none, none, v9]) (fun q => ∃ ρ, q = .next ρ ∧ JK ts ys (ts.map (·.n)) T (i + 1) ρ) := by
  have hL := h.len
  have R := rows_of h hT
  obtain ⟨y, gy, _⟩ := atI_ex (xs := ys) (i := (i : Int)) (by omega) (by omega)
  have gy := atI_map' D.int gy
  have gt : L2.atI (ts.map tD) (i : Int) = some (tD ts[i]) := atI_ofNat _ _ _ (by simp [hi])
  have d16 := divS y (b := 16) (by omega) (by omega)
  have hm : ts[i].n ∈ ts.map (·.n) := List.mem_map_of_mem (List.getElem_mem hi)
  obtain ⟨w1, a1, b1, e1⟩ := s_walk R ts[i].n hm (y / 16) 16
  obtain ⟨w2, a2, b2, e2⟩ := s_walk R ts[i].n hm (y / 16) (1 + y % 4)
  have hne : ts ≠ [] := fun e => by rw [e] at hi; cases hi
  have k0 : zss.length < 16777216 := by omega
  have k1 : zss.length + 1 < 16777216 := by omega
  have k2 : zss.length < 16777215 := by omega
  have fin : ∀ v9, JK ts ys (ts.map (·.n)) T (i + 1) [some (.v (.tup (ts.map tD))), some (.v (.lst (ys.map .int))), some (.v (rowsD (ts.map (·.n)) T)), some (.v d3), some (.o (.lst (zss.map nmD ++ [nmD w1, nmD w2]))), some (.v (.int (i : Int))), none, none, none, v9] := fun v9 =>
    ⟨zss ++ [w1, w2], .v (rowsD (ts.map (·.n)) T), some (.v d3), some (.v (.int (i : Int))), v9, .inr rfl, fun _ => ⟨_, _, rfl, rfl⟩, fun e => by omega, fun _ => ⟨_, rfl⟩, by simp; omega, fun w hw => by
      rcases List.mem_append.mp hw with q | q
      · exact hp w q
      · simp only [List.mem_cons, List.not_mem_nil, or_false] at q
        rcases q with rfl | rfl
        · exact ⟨⟨fun z hz => R.nam z (a1 z hz), by omega⟩, b1⟩
        · exact ⟨⟨fun z hz => R.nam z (a2 z hz), by omega⟩, b2⟩, by simp⟩
  generalize ts[i] = t at *
  have g0 : dIx (tD t) (.int 0) = some (.v (.str t.n)) := by simp [tD]
  rcases hv with rfl | rfl
  · simp [-x_div, b__law_names_to_try_f3, gy, gt, g0, d16, e1, e2, k0, k1, k2]
    exact fin _
  · simp [-x_div, b__law_names_to_try_f3, gy, gt, g0, d16, e1, e2, k0, k1, k2]
    exact fin _
theorem s_names_to_try (ts : List Ta) (h : Good ts) (ys : List Int) (hy : ys.length = 17) : ∃ s, Papers s ∧ m__law_names_to_try [.tup (ts.map tD), .lst (ys.map .int)] = .ok s := by
  have hL := h.len
  obtain ⟨T, hT⟩ := exists_T ts h.nd
  have key : Ev (m__law_names_to_try [.tup (ts.map tD), .lst (ys.map .int)]) (fun s => Papers s) := by
    have rest := fun v2 v3 v5 v9 hv zss a b c => s_NT ts h ys hy v2 v3 v5 v9 hv zss a b c
    have x1 := x_int1' (ts.length : Int) (by omega)
    simp only [m__law_names_to_try, b__law_names_to_try]
    rw [← b_NT]
    generalize b_NT = TT at rest
    simp
    refine lp_v ts (h := tD) (J := fun i ρ => ∃ v3, (i = 0 → v3 = none) ∧ (i ≠ 0 → ∃ d, v3 = some (.v d)) ∧ ρ = [some (.v (.tup (ts.map tD))), some (.v (.lst (ys.map .int))), some (.o (.dic false (mpD ((ts.take i).map (·.n)) fun z => tD (T z)))), v3, none, none, none, none, none, none]) rfl ⟨none, fun _ => rfl, fun q => (q rfl).elim, by simp [mpD]⟩ ?_ ?_
    · rintro i t _ hx ⟨v3, _, _, rfl⟩
      have ht := List.mem_of_getElem? hx
      have nt := not_take (fun t : Ta => t.n) h.nd hx
      have hlen : ((ts.take i).map (·.n)).length < 16777216 := by simp; omega
      rw [take_snoc hx, List.map_append]
      generalize (ts.take i).map (·.n) = K at nt hlen
      have p := gPut_mp (fun z => tD (T z)) t.n (tD (T t.n)) K
      rw [updF_id] at p
      rw [hT t ht] at p
      simp [nt] at p
      have e0 : dIx (tD t) (.int 0) = some (.v (.str t.n)) := by simp [tD]
      simp [b__law_names_to_try_f1, e0, p, hlen]
    rintro _ ⟨v3, n0, n1, rfl⟩
    rw [List.take_length]
    by_cases q0 : ts.length = 0
    · have e := n0 q0
      have te : ts = [] := List.length_eq_zero_iff.mp q0
      subst e
      simp [x_eLc]
      refine lm_v ts (fun t => .str t.n) (h := tD) rfl (by omega) (fun t ht => ?_) ?_
      · simp [b__law_names_to_try_c2, tD]
      simp [x1]
      refine rg_v (J := JK ts ys (ts.map (·.n)) T) ⟨[[], ts.map (·.n)], .o (rowsD (ts.map (·.n)) T), none, none, none, .inl rfl, fun q => (q rfl).elim, fun _ => ⟨rfl, fun _ => rfl⟩, fun q => (q te).elim, rfl, fun w hw => ?_, by simp [nmD, rowsD]⟩ ?_ ?_
      · simp only [List.mem_cons, List.not_mem_nil, or_false] at hw
        rcases hw with rfl | rfl
        · exact ⟨⟨by simp, by simp⟩, by simp⟩
        · exact ⟨⟨fun z hz => h.mem hz, by simp; omega⟩, by simp; omega⟩
      · rintro i _ hi ⟨zss, v2, v3, v5, v9, hv, h1, h0, hne, hl, hp, rfl⟩
        obtain ⟨d3, rfl⟩ := hne (fun e => by rw [e] at hi; cases hi)
        obtain ⟨q, e, ρ, rfl, h2⟩ := f3_turn ts h T hT ys hy i hi v2 hv d3 v9 zss hl hp
        simp [e]
        exact h2
      · rintro _ ⟨zss, v2, v3, v5, v9, hv, h1, h0, hne, hl, hp, rfl⟩
        have hv' : (v3 = none ∧ v5 = none) ∨ ∃ d3 d5, v3 = some (.v d3) ∧ v5 = some (.v d5) := by
          by_cases q : ts.length = 0
          · exact .inl ⟨(h0 q).2 (List.length_eq_zero_iff.mp q), (h0 q).1⟩
          · exact .inr (h1 q)
        obtain ⟨q, e, s, ρ, hP, rfl⟩ := rest (some v2) v3 v5 v9 hv' zss (by omega) (by omega) hp
        simp [e]
        exact hP
    · obtain ⟨d, rfl⟩ := n1 q0
      simp [x_eLc]
      refine lm_v ts (fun t => .str t.n) (h := tD) rfl (by omega) (fun t ht => ?_) ?_
      · simp [b__law_names_to_try_c2, tD]
      simp [x1]
      refine rg_v (J := JK ts ys (ts.map (·.n)) T) ⟨[[], ts.map (·.n)], .o (rowsD (ts.map (·.n)) T), some (.v d), none, none, .inl rfl, fun q => (q rfl).elim, fun _ => ⟨rfl, fun e => (q0 (by rw [e]; rfl)).elim⟩, fun _ => ⟨d, rfl⟩, rfl, fun w hw => ?_, by simp [nmD, rowsD]⟩ ?_ ?_
      · simp only [List.mem_cons, List.not_mem_nil, or_false] at hw
        rcases hw with rfl | rfl
        · exact ⟨⟨by simp, by simp⟩, by simp⟩
        · exact ⟨⟨fun z hz => h.mem hz, by simp; omega⟩, by simp; omega⟩
      · rintro i _ hi ⟨zss, v2, v3, v5, v9, hv, h1, h0, hne, hl, hp, rfl⟩
        obtain ⟨d3, rfl⟩ := hne (fun e => by rw [e] at hi; cases hi)
        obtain ⟨q, e, ρ, rfl, h2⟩ := f3_turn ts h T hT ys hy i hi v2 hv d3 v9 zss hl hp
        simp [e]
        exact h2
      · rintro _ ⟨zss, v2, v3, v5, v9, hv, h1, h0, hne, hl, hp, rfl⟩
        have hv' : (v3 = none ∧ v5 = none) ∨ ∃ d3 d5, v3 = some (.v d3) ∧ v5 = some (.v d5) := by
          by_cases q : ts.length = 0
          · exact .inl ⟨(h0 q).2 (List.length_eq_zero_iff.mp q), (h0 q).1⟩
          · exact .inr (h1 q)
        obtain ⟨q, e, s, ρ, hP, rfl⟩ := rest (some v2) v3 v5 v9 hv' zss (by omega) (by omega) hp
        simp [e]
        exact hP
  obtain ⟨s, e, h⟩ := key
  exact ⟨s, h, e⟩
end K68

namespace K68
open PL PySem Std
open FF (Nums divS)
theorem mid_get (w : List D) (d : D) (rest : List D) : (w ++ d :: rest)[w.length]? = some d := by simp
theorem x_names_at (w : List Str) (hw : ∀ z ∈ w, Nam z) (d : D) (hd : Sh d) (hb : isNm d = false) (rest : List D) (hl : w.length + rest.length < 100) (lo hi : Int) : m_is_names [.tup (w.map .str ++ d :: rest), .int lo, .int hi] = .ok (.v (.bl false)) := by
  have t := t_tup (.tup (w.map .str ++ d :: rest)) lo hi rfl
  have nd : m_is_name [d] = .ok (.v (.bl false)) := by have := Std.nmD d hd; rw [hb] at this; exact this
  by_cases ht : isTup lo hi (.tup (w.map .str ++ d :: rest)) = true
  · rw [ht] at t
    have hlen : (w.map D.str ++ d :: rest).length ≤ 100 := by simp; omega
    have hget : ∀ i x, i < w.length → (w.map D.str ++ d :: rest)[i]? = some x → ∃ z, x = .str z ∧ Nam z := fun i x hi hx => by
      rw [List.getElem?_append_left (by simpa using hi), List.getElem?_map] at hx
      cases e : w[i]? with
      | none => rw [e] at hx; cases hx
      | some z => rw [e] at hx; cases hx; exact ⟨z, rfl, hw z (List.mem_of_getElem? e)⟩
    have hmid : (w.map D.str ++ d :: rest)[w.length]? = some d := by have := mid_get (w.map D.str) d rest; rwa [List.length_map] at this
    have hend : w.length < (w.map D.str ++ d :: rest).length := by simp
    generalize w.map D.str ++ d :: rest = es at *
    simp [m_is_names, b_is_names, t]
    refine lp_eq es (h := id) (J := fun i ρ => i ≤ w.length ∧ ∃ K v4, K.length ≤ i ∧ ρ = [some (.v (.tup es)), some (.v (.int lo)), some (.v (.int hi)), some (.o (.dic false (seenD K))), v4]) (List.map_id _).symm ⟨by omega, [], none, by simp, rfl⟩ ?_ ?_
    · rintro i x _ hx ⟨hi, K, v4, hK, rfl⟩
      have hi2 := (List.getElem?_eq_some_iff.mp hx).1
      by_cases q : i < w.length
      · obtain ⟨z, rfl, nz⟩ := hget i x q hx
        have kl : K.length < 16777216 := by omega
        by_cases m : z ∈ K
        · simp [b_is_names_f1, t_nam nz, gGet_seen, m]
        · simp [b_is_names_f1, t_nam nz, gGet_seen, m, seenD_len, kl, gPut_seen]
          exact ⟨by omega, K ++ [z], by simp; omega, rfl⟩
      · have e : i = w.length := by omega
        subst e
        rw [hmid] at hx
        cases hx
        simp [b_is_names_f1, nd]
    · rintro _ ⟨hi, _⟩
      omega
  · have ht : isTup lo hi (.tup (w.map .str ++ d :: rest)) = false := by simpa using ht
    rw [ht] at t
    simp [m_is_names, b_is_names, t]
theorem x_names0 (d : D) (hd : noD d = true) (lo hi : Int) (h : isTup lo hi d = false) : m_is_names [d, .int lo, .int hi] = .ok (.v (.bl false)) := by
  have t := t_tup d lo hi hd
  rw [h] at t
  simp [m_is_names, b_is_names, t]
def JTm (ts : List Ta) (due : Int) (es : List D) (n i : Nat) (ρ : Rho) : Prop := i ≤ n ∧ ∃ (K : List Str) (f : Str → D) (v5 v6 : Option S), K.length ≤ i ∧ ρ = [some (.v (.tup [.tup (ts.map tD), .int due])), some (.v (.tup es)), some (.o (.dic false (mpD K f))), some (.v (.tup (ts.map tD))), some (.v (.int due)), v5, v6, none]
/-! what upholds_tasks refuses -/
def No (ts : List Ta) (due : Int) (d : D) : Prop := m_upholds_tasks [sD ts due, d] = .ok (.v (.bl false))
section
variable {ts : List Ta} {due : Int} (h : Good ts) (d0 : 0 ≤ due) (d1 : due ≤ 2000)
include h d0 d1
theorem no_shape (d : D) (hd : noD d = true) (hs : isTup 2 2 d = false) : No ts due d := by
  have c := s_check ts h due d0 d1
  have t := t_tup d 2 2 hd
  rw [hs] at t
  simp [No, m_upholds_tasks, b_upholds_tasks, c, m_is_answer, b_is_answer, t]
theorem no_first (a b : D) (ha : isT .str a = some false) : No ts due (.tup [a, b]) := by
  have c := s_check ts h due d0 d1
  have t := t_tup (.tup [a, b]) 2 2 rfl
  simp at t
  simp [No, m_upholds_tasks, b_upholds_tasks, c, m_is_answer, b_is_answer, t, ha]
theorem no_word (a : Str) (b : D) (h1 : ¬ a = "yes") (h2 : ¬ a = "no") : No ts due (.tup [.str a, b]) := by
  have c := s_check ts h due d0 d1
  have t := t_tup (.tup [.str a, b]) 2 2 rfl
  simp at t
  simp [No, m_upholds_tasks, b_upholds_tasks, c, m_is_answer, b_is_answer, t, h1, h2]
theorem up_yes (p : D) (b : Bool) (e : m_is_timely [sD ts due, p] = .ok (.v (.bl b))) : m_upholds_tasks [sD ts due, .tup [.str "yes", p]] = .ok (.v (.bl b)) := by
  have c := s_check ts h due d0 d1
  have t := t_tup (.tup [.str "yes", p]) 2 2 rfl
  simp at t
  simp [m_upholds_tasks, b_upholds_tasks, c, m_is_answer, b_is_answer, t, e]
theorem up_no (p : D) (b : Bool) (e : m_is_hindrance [sD ts due, p] = .ok (.v (.bl b))) : m_upholds_tasks [sD ts due, .tup [.str "no", p]] = .ok (.v (.bl b)) := by
  have c := s_check ts h due d0 d1
  have t := t_tup (.tup [.str "no", p]) 2 2 rfl
  simp at t
  have n : ¬ ("no" : Str) = "yes" := by decide +kernel
  simp [m_upholds_tasks, b_upholds_tasks, c, m_is_answer, b_is_answer, t, n, e]
/-! schedules that are none -/
theorem time_shape (p : D) (hp : noD p = true) (hs : isTup ts.length ts.length p = false) : No ts due (.tup [.str "yes", p]) := by
  have t := t_tup p ts.length ts.length hp
  rw [hs] at t
  exact up_yes h d0 d1 p false (by simp [m_is_timely, b_is_timely, sD, t])
theorem time_item (ps : List Int) (x : D) (hx : noD x = true) (hw : isW x = false) (rest : List D) (hl : ps.length + rest.length < 100) : No ts due (.tup [.str "yes", .tup (ps.map .int ++ x :: rest)]) := by
  have hL := h.len
  by_cases ht : isTup ts.length ts.length (.tup (ps.map .int ++ x :: rest)) = true
  · have t := t_tup (.tup (ps.map .int ++ x :: rest)) ts.length ts.length rfl
    rw [ht] at t
    have hlen : (ps.map D.int ++ x :: rest).length = ts.length := by simp at ht; simp; omega
    have hget : ∀ i y, i < ps.length → (ps.map D.int ++ x :: rest)[i]? = some y → ∃ z, y = .int z := fun i y hi hy => by
      rw [List.getElem?_append_left (by simpa using hi), List.getElem?_map] at hy
      cases e : ps[i]? with
      | none => rw [e] at hy; cases hy
      | some z => rw [e] at hy; cases hy; exact ⟨z, rfl⟩
    have hmid : (ps.map D.int ++ x :: rest)[ps.length]? = some x := by have := mid_get (ps.map D.int) x rest; rwa [List.length_map] at this
    have hend : ps.length < ts.length := by rw [← hlen]; simp
    refine up_yes h d0 d1 _ false ?_
    generalize ps.map D.int ++ x :: rest = es at *
    have zp : zip2 [.tup (ts.map tD), .tup es] = some ((ts.zip es).map fun q => .tup [tD q.1, q.2]) := by
      have : ∀ (ts : List Ta) (es : List D), zpD (ts.map tD) es = (ts.zip es).map fun q => .tup [tD q.1, q.2] := by
        intro ts
        induction ts with
        | nil => intro es; simp [zpD]
        | cons t ts ih =>
          intro es
          cases es with
          | nil => simp [zpD]
          | cons e es => simp [zpD, ih]
      simp [zip2, isTupD, dSeq, this]
    simp [m_is_timely, b_is_timely, sD, t, zp]
    refine lp_eq (ts.zip es) (h := fun q => D.tup [tD q.1, q.2]) (J := JTm ts due es ps.length) rfl ⟨by omega, [], fun _ => .non, none, none, by simp, by simp [mpD]⟩ ?_ ?_
    · rintro i q _ hx' ⟨hi, K, f, v5, v6, hK, rfl⟩
      rw [List.getElem?_zip_eq_some] at hx'
      obtain ⟨g1, g2⟩ := hx'
      obtain ⟨t1, y⟩ := q
      by_cases c : i < ps.length
      · obtain ⟨z, e⟩ := hget i y c g2
        subst e
        have w := t_w (.int z) rfl
        have kl : K.length < 16777216 := by omega
        have p := gPut_mp f t1.n (.int (z + t1.d)) K
        by_cases c1 : z < 0
        · simp [b_is_timely_f1, tD, w, c1]
        · by_cases c2 : due < z + t1.d
          · simp [b_is_timely_f1, tD, w, c1, c2]
          · simp [b_is_timely_f1, tD, w, c1, c2, p, kl]
            refine ⟨by omega, _, _, some (.v (.tup [.str t1.n, .int t1.d, .tup (t1.a.map .str)])), some (.v (.int z)), ?_, rfl⟩
            split
            · omega
            · rw [List.length_append, List.length_singleton]; omega
      · have e : i = ps.length := by omega
        subst e
        rw [hmid] at g2
        obtain rfl : y = x := (Option.some.inj g2).symm
        have w := t_w y hx
        rw [hw] at w
        simp [b_is_timely_f1, w]
    · rintro _ ⟨hi, _⟩
      rw [List.length_zip, hlen] at hi
      omega
  · exact time_shape h d0 d1 _ rfl (by simpa using ht)
end
end K68

namespace K68
open PL PySem Std
open FF (Nums divS)
theorem same_non (y : Str) : m_same [.non, .str y] = .ok (.v (.bl false)) := by
  simp only [m_same, b_same]
  generalize hN : (1000000000 : Nat) = N
  have h0 : 0 < N := by omega
  have e : m_same_single [.non, .str y] = .ok (.v (.bl false)) := by simp [m_same_single, b_same_single]
  simp [x_wh h0, b_same_t2, b_same_w2, e, tr1, tr0, pop1]
theorem same_bl (b : Bool) (y : Str) : m_same [.bl b, .str y] = .ok (.v (.bl false)) := by
  simp only [m_same, b_same]
  generalize hN : (1000000000 : Nat) = N
  have h0 : 0 < N := by omega
  have e : m_same_single [.bl b, .str y] = .ok (.v (.bl false)) := by simp [m_same_single, b_same_single]
  simp [x_wh h0, b_same_t2, b_same_w2, e, tr1, tr0, pop1]
theorem same_tup (es : List D) (y : Str) : m_same [.tup es, .str y] = .ok (.v (.bl false)) := by
  simp only [m_same, b_same]
  generalize hN : (1000000000 : Nat) = N
  have h0 : 0 < N := by omega
  simp [x_wh h0, b_same_t2, b_same_w2, tr1, tr0, pop1]
section
variable {ts : List Ta} {due : Int} (h : Good ts) (d0 : 0 ≤ due) (d1 : due ≤ 2000)
include h d0 d1
theorem hb_shape (p : D) (hp : noD p = true) (hs : isTup 2 2 p = false) : No ts due (.tup [.str "no", p]) := by
  have t := t_tup p 2 2 hp
  rw [hs] at t
  exact up_no h d0 d1 p false (by simp [m_is_hindrance, b_is_hindrance, sD, t])
theorem hb_word (a b : D) (s1 : m_same [a, .str "ring"] = .ok (.v (.bl false))) (s2 : m_same [a, .str "late"] = .ok (.v (.bl false))) : No ts due (.tup [.str "no", .tup [a, b]]) := by
  have t := t_tup (.tup [a, b]) 2 2 rfl
  simp at t
  exact up_no h d0 d1 _ false (by simp [m_is_hindrance, b_is_hindrance, sD, t, s1, s2])
theorem hb_names (r : Bool) (n : D) (e : m_is_names [n, .int 1, .int 16] = .ok (.v (.bl false))) : No ts due (.tup [.str "no", .tup [.str (wS r), n]]) := by
  have t := t_tup (.tup [.str (wS r), n]) 2 2 rfl
  simp at t
  refine up_no h d0 d1 _ false ?_
  have s1 := same_str (wS r) "ring"
  have s2 := same_str (wS r) "late"
  cases r
  · have q1 : ¬ wS false = "ring" := by decide +kernel
    have q2 : wS false = "late" := rfl
    rw [q2] at t s1 s2 ⊢
    have ne : ¬ (("late" : Str) = "ring") := by decide +kernel
    simp [ne] at s1 s2
    simp [m_is_hindrance, b_is_hindrance, sD, t, s1, s2, c_MOST_TASKS, e]
  · have q2 : wS true = "ring" := rfl
    rw [q2] at t s1 s2 ⊢
    simp at s1
    simp [m_is_hindrance, b_is_hindrance, sD, t, s1, c_MOST_TASKS, e]
/-! the lists of wrong answers -/
def shapes (w : Str) (p : D) : List D :=
  [.lst [.str w, p], .tup [.str w], .tup [.str w, p, p], .tup [.str w, p, .non], .tup [p, .str w], .tup [.str (w ++ " "), p], .tup [.str "", p], .tup [.non, p], .tup [.bl true, p], .tup [.str w, .non], .tup [.str w, .bl true], .tup [.str w, .str w], .non, .int 0, .str w, p, .tup []]
omit h d0 d1 in
theorem s_shapes (w : Str) (hw : w.length + (Str.ofString " ").length ≤ 16777216) (p : D) : m__law_wrong_shapes [.str w, p] = .ok (.o (.lst (shapes w p))) := by
  simp [m__law_wrong_shapes, b__law_wrong_shapes, shapes, hw]
  done
theorem no_shapes (w : Str) (n1 : ¬ (w ++ " " : Str) = "yes") (n2 : ¬ (w ++ " " : Str) = "no") (p : D) (hp : isT .str p = some false) (np : No ts due p) (w1 : No ts due (.tup [.str w, .non])) (w2 : No ts due (.tup [.str w, .bl true])) (w3 : No ts due (.tup [.str w, .str w])) (d : D) (hd : d ∈ shapes w p) : No ts due d := by
  simp only [shapes, List.mem_cons, List.not_mem_nil, or_false] at hd
  rcases hd with rfl | rfl | rfl | rfl | rfl | rfl | rfl | rfl | rfl | rfl | rfl | rfl | rfl | rfl | rfl | rfl | rfl
  · exact no_shape h d0 d1 _ rfl rfl
  · exact no_shape h d0 d1 _ rfl rfl
  · exact no_shape h d0 d1 _ rfl rfl
  · exact no_shape h d0 d1 _ rfl rfl
  · exact no_first h d0 d1 _ _ hp
  · exact no_word h d0 d1 _ _ n1 n2
  · exact no_word h d0 d1 _ _ (by decide +kernel) (by decide +kernel)
  · exact no_first h d0 d1 _ _ rfl
  · exact no_first h d0 d1 _ _ rfl
  · exact w1
  · exact w2
  · exact w3
  · exact no_shape h d0 d1 _ rfl rfl
  · exact no_shape h d0 d1 _ rfl rfl
  · exact no_shape h d0 d1 _ rfl rfl
  · exact np
  · exact no_shape h d0 d1 _ rfl rfl
end
end K68

namespace K68
open PL PySem Std
open FF (Nums divS)
def JO (ts : List Ta) (due : Int) (ps : List Int) (w : List Str) (n : Nat) (ρ : Rho) : Prop :=
  ∃ (W : List D) (v4 v5 v6 v7 v8 : Option S), (∀ d ∈ W, No ts due d) ∧ W.length ≤ n ∧ ρ = [some (.v (sD ts due)), some (.v (iD ps)), some (.v (nmD w)), some (.o (.lst W)), v4, v5, v6, v7, v8]
def J4 (ts : List Ta) (due : Int) (ps : List Int) (w : List Str) (r : Bool) (n : Nat) (ρ : Rho) : Prop :=
  ∃ (W : List D) (v5 v6 v7 v8 : Option S), (∀ d ∈ W, No ts due d) ∧ W.length ≤ n ∧ ρ = [some (.v (sD ts due)), some (.v (iD ps)), some (.v (nmD w)), some (.o (.lst W)), some (.v (.str (wS r))), v5, v6, v7, v8]
def J5 (ts : List Ta) (due : Int) (ps : List Int) (w : List Str) (a : Nat) (n : Nat) (ρ : Rho) : Prop :=
  ∃ (W : List D) (v4 v6 v7 v8 : Option S), (∀ d ∈ W, No ts due d) ∧ W.length ≤ n ∧ ρ = [some (.v (sD ts due)), some (.v (iD ps)), some (.v (nmD w)), some (.o (.lst W)), v4, some (.v (.int (a : Int))), v6, v7, v8]
theorem all_snoc {P : D → Prop} {W : List D} (hW : ∀ d ∈ W, P d) {d : D} (hd : P d) : ∀ x ∈ W ++ [d], P x := fun x hx => by
  rcases List.mem_append.mp hx with q | q
  · exact hW x q
  · cases List.mem_singleton.mp q; exact hd
def P7 (r : Bool) (w : List Str) : List D := [.tup [.str (wS r)], .tup [.str (wS r), nmD w, nmD w], .tup [nmD w, .str (wS r)], .tup [.str (wS r), .non], .tup [.str (wS r), .str (wS r)], .tup [.non, nmD w], .tup [.bl true, nmD w]]
def I6 : List D := [.non, .int 1, .bl true, .str "", .str "A", .tup [.str "a"]]
theorem p7_len (r : Bool) (w : List Str) : (P7 r w).length = 7 := rfl
theorem i6_len : I6.length = 6 := rfl
section
variable {ts : List Ta} {due : Int} (h : Good ts) (d0 : 0 ≤ due) (d1 : due ≤ 2000)
include h d0 d1
theorem p7_no (r : Bool) (w : List Str) (d : D) (hd : d ∈ P7 r w) : No ts due (.tup [.str "no", d]) := by
  simp only [P7, List.mem_cons, List.not_mem_nil, or_false] at hd
  rcases hd with rfl | rfl | rfl | rfl | rfl | rfl | rfl
  · exact hb_shape h d0 d1 _ rfl rfl
  · exact hb_shape h d0 d1 _ rfl rfl
  · exact hb_word h d0 d1 _ _ (same_tup _ _) (same_tup _ _)
  · exact hb_names h d0 d1 r _ (x_names0 _ rfl 1 16 rfl)
  · exact hb_names h d0 d1 r _ (x_names0 _ rfl 1 16 rfl)
  · exact hb_word h d0 d1 _ _ (same_non _) (same_non _)
  · exact hb_word h d0 d1 _ _ (same_bl _ _) (same_bl _ _)
theorem i6_no (r : Bool) (w : List Str) (hw : Pap w) (d : D) (hd : d ∈ I6) : No ts due (.tup [.str "no", .tup [.str (wS r), .tup (w.map .str ++ [d])]]) ∧ No ts due (.tup [.str "no", .tup [.str (wS r), .tup (d :: w.map .str)]]) := by
  have hl := hw.len
  have key : Sh d ∧ isNm d = false := by
    simp only [I6, List.mem_cons, List.not_mem_nil, or_false] at hd
    rcases hd with rfl | rfl | rfl | rfl | rfl | rfl <;> exact ⟨⟨rfl, fun y e => by cases e <;> decide +kernel⟩, by decide +kernel⟩
  exact ⟨hb_names h d0 d1 r _ (x_names_at w hw.nam d key.1 key.2 [] (by simp; omega) 1 16), hb_names h d0 d1 r _ (x_names_at [] (by simp) d key.1 key.2 (w.map .str) (by simp; omega) 1 16)⟩
theorem f3_other (ps : List Int) (w : List Str) (hw : Pap w) (r : Bool) (n : Nat) (hn : n < 900) (W : List D) (hW : ∀ d ∈ W, No ts due d) (hl : W.length ≤ n) (v5 v6 v7 v8 : Option S) :
    Ev (b__law_other_kinds_f3 [some (.v (sD ts due)), some (.v (iD ps)), some (.v (nmD w)), some (.o (.lst W)), some (.v (.str (wS r))), v5, v6, v7, v8]) (fun q => ∃ ρ, q = .next ρ ∧ J4 ts due ps w r (n + 20) ρ) := by
  have wl := hw.len
  simp [b__law_other_kinds_f3]
  refine lp_v (P7 r w) (h := id) (J := fun i ρ => J4 ts due ps w r (n + i) ρ) (by simp [P7]) ⟨W, v5, v6, v7, v8, hW, by omega, rfl⟩ ?_ ?_
  · rintro i d _ hd ⟨W, v5, v6, v7, v8, hW, hl, rfl⟩
    have hi : i < 7 := by have := (List.getElem?_eq_some_iff.mp hd).1; rw [p7_len] at this; exact this
    have nd := p7_no h d0 d1 r w d (List.mem_of_getElem? hd)
    have hl' : W.length < 16777216 := by omega
    simp [b__law_other_kinds_f1, hl']
    refine ⟨W ++ [.tup [.str "no", d]], v5, v6, some (.v d), v8, ?_, ?_, ?_⟩
    · exact all_snoc hW nd
    · rw [List.length_append, List.length_singleton]; omega
    · rfl
  rintro _ ⟨W, v5, v6, v7, v8, hW, hl, rfl⟩
  rw [p7_len] at hl
  have hl' : W.length < 16777216 := by omega
  have y1 := time_item h d0 d1 [] (.str (wS r)) rfl rfl [nmD w] (by simp)
  simp at y1
  simp [hl']
  refine lp_v I6 (h := id) (J := fun i ρ => J4 ts due ps w r (n + 8 + 2 * i) ρ) (by simp [I6]) ⟨W ++ [.tup [.str "yes", .tup [.str (wS r), nmD w]]], v5, v6, v7, v8, all_snoc hW y1, by simp; omega, rfl⟩ ?_ ?_
  · rintro i d _ hd ⟨W, v5, v6, v7, v8, hW, hl, rfl⟩
    have hi : i < 6 := by have := (List.getElem?_eq_some_iff.mp hd).1; rw [i6_len] at this; exact this
    obtain ⟨n1, n2⟩ := i6_no h d0 d1 r w hw d (List.mem_of_getElem? hd)
    have l0 : W.length < 16777216 := by omega
    have l1 : W.length + 1 < 16777216 := by omega
    have l1' : W.length < 16777215 := by omega
    have l2 : w.length + 1 ≤ 16777216 := by omega
    have l2' : w.length ≤ 16777215 := by omega
    have l3 : 1 + w.length ≤ 16777216 := by omega
    simp [b__law_other_kinds_f2, nmD, l0, l1, l1', l2, l2', l3]
    exact ⟨W ++ [.tup [.str "no", .tup [.str (wS r), .tup (w.map .str ++ [d])]]] ++ [.tup [.str "no", .tup [.str (wS r), .tup (d :: w.map .str)]]], v5, v6, v7, some (.v d), all_snoc (all_snoc hW n1) n2, by simp; omega, by simp [nmD]⟩
  · rintro _ ⟨W, v5, v6, v7, v8, hW, hl, rfl⟩
    rw [i6_len] at hl
    simp
    exact ⟨W, v5, v6, v7, v8, hW, by omega, rfl⟩
end
end K68

namespace K68
open PL PySem Std
open FF (Nums divS)
structure St (ps : List Int) : Prop where
  len : ps.length ≤ 16
  bd : ∀ p ∈ ps, 0 ≤ p ∧ p ≤ 500000
section
variable {ts : List Ta} {due : Int} (h : Good ts) (d0 : 0 ≤ due) (d1 : due ≤ 2000)
include h d0 d1
theorem f4_other (ps : List Int) (hp : St ps) (w : List Str) (a : Nat) (ha : a < ps.length) (x : D) (hx : noD x = true) (hw : isW x = false) (W : List D) (hW : ∀ d ∈ W, No ts due d) (hl : W.length < 1000) (v4 v6 v7 : Option S) :
    ∃ y, No ts due y ∧ y = .tup [.str "yes", .tup ((ps.take a).map .int ++ x :: (ps.drop (a + 1)).map .int)] ∧ b__law_other_kinds_f4 [some (.v (sD ts due)), some (.v (iD ps)), some (.v (nmD w)), some (.o (.lst W)), v4, some (.v (.int (a : Int))), v6, v7, some (.v x)] =
      .ok (.next [some (.v (sD ts due)), some (.v (iD ps)), some (.v (nmD w)), some (.o (.lst (W ++ [y]))), v4, some (.v (.int (a : Int))), v6, v7, some (.v x)]) := by
  have pl := hp.len
  have c1 : cutG (ps.map D.int) none (some (a : Int)) = (ps.map D.int).take a := by rw [cutG_to (by omega)]; simp
  have c2 : cutG (ps.map D.int) (some ((a : Int) + 1)) none = (ps.map D.int).drop (a + 1) := by rw [cutG_from (by omega)]; congr 1
  have l1 : min a ps.length + 1 ≤ 16777216 := by omega
  have l1' : min a ps.length ≤ 16777215 := by omega
  have l2 : min a ps.length + 1 + (ps.length - (a + 1)) ≤ 16777216 := by omega
  have l3 : min a ps.length + (ps.length - (a + 1) + 1) ≤ 16777216 := by omega
  have hl' : W.length < 16777216 := by omega
  refine ⟨_, time_item h d0 d1 (ps.take a) x hx hw ((ps.drop (a + 1)).map .int) (by simp; omega), rfl, ?_⟩
  simp [b__law_other_kinds_f4, iD, c1, c2, l1, l1', l2, l3, hl']
theorem f5_other (ps : List Int) (hp : St ps) (w : List Str) (a : Nat) (ha : a < ps.length) (n : Nat) (hn : n < 900) (W : List D) (hW : ∀ d ∈ W, No ts due d) (hl : W.length ≤ n) (v4 v6 v7 v8 : Option S) :
    Ev (b__law_other_kinds_f5 [some (.v (sD ts due)), some (.v (iD ps)), some (.v (nmD w)), some (.o (.lst W)), v4, some (.v (.int (a : Int))), v6, v7, v8]) (fun q => ∃ ρ, q = .next ρ ∧ JO ts due ps w (n + 4) ρ) := by
  have pl := hp.len
  have pb := hp.bd ps[a] (List.getElem_mem ha)
  have g : L2.atI (ps.map D.int) (a : Int) = some (.int ps[a]) := atI_ofNat _ _ _ (by simp [ha])
  have g' : dIx (iD ps) (.int (a : Int)) = some (.v (.int ps[a])) := by simp [iD, g]
  generalize ps[a] = p at *
  have es : dStr1 [.int p] = some (.v (.str (Str.ofString (toString p)))) := by
    have : p.natAbs.log2 < 1920 := by
      rcases Nat.eq_zero_or_pos p.natAbs with z | z
      · rw [z]; decide
      · exact Nat.lt_of_lt_of_le ((Nat.log2_lt (k := 64) (by omega)).mpr (by omega)) (by decide)
    exact if_pos this
  have c1 : cutG (ps.map D.int) none (some (a : Int)) = (ps.map D.int).take a := by rw [cutG_to (by omega)]; simp
  have c2 : cutG (ps.map D.int) (some ((a : Int) + 1)) none = (ps.map D.int).drop (a + 1) := by rw [cutG_from (by omega)]; congr 1
  have l1 : min a ps.length + 1 ≤ 16777216 := by omega
  have l1' : min a ps.length ≤ 16777215 := by omega
  have l2 : min a ps.length + 1 + (ps.length - (a + 1)) ≤ 16777216 := by omega
  have l3 : min a ps.length + (ps.length - (a + 1) + 1) ≤ 16777216 := by omega
  have bnd : ∀ b : Bool, No ts due (.tup [.str "yes", .tup ((ps.take a).map .int ++ .bl b :: (ps.drop (a + 1)).map .int)]) := fun b => time_item h d0 d1 (ps.take a) (.bl b) rfl rfl ((ps.drop (a + 1)).map .int) (by simp; omega)
  simp [b__law_other_kinds_f5, g', es]
  refine lp_v [.non, .str (Str.ofString (toString p)), .tup [.int p]] (h := id) (J := fun i ρ => J5 ts due ps w a (n + i) ρ) (by simp) ⟨W, v4, v6, v7, v8, hW, by omega, rfl⟩ ?_ ?_
  · rintro i x _ hx ⟨W, v4, v6, v7, v8, hW, hl, rfl⟩
    have hi : i < 3 := (List.getElem?_eq_some_iff.mp hx).1
    have hm := List.mem_of_getElem? hx
    have key : noD x = true ∧ isW x = false := by
      simp only [List.mem_cons, List.not_mem_nil, or_false] at hm
      rcases hm with rfl | rfl | rfl <;> exact ⟨rfl, rfl⟩
    obtain ⟨y, ny, _, e⟩ := f4_other h d0 d1 ps hp w a ha x key.1 key.2 W hW (by omega) v4 v6 v7
    simp [e]
    exact ⟨W ++ [y], v4, v6, v7, some (.v x), all_snoc hW ny, by simp; omega, rfl⟩
  · rintro _ ⟨W, v4, v6, v7, v8, hW, hl, rfl⟩
    have hl : W.length ≤ n + 3 := hl
    have hl' : W.length < 16777216 := by omega
    have i1 := in_intsT p [0, 1]
    simp at i1
    by_cases c : p = 0 ∨ p = 1
    · have b1 := bnd (decide (p = 1))
      simp at b1
      simp [g', i1, c, iD, g, c1, c2, l1, l1', l2, l3, hl']
      exact ⟨W ++ [_], v4, some (.v (.int (a : Int))), v6, v7, v8, all_snoc hW b1, by simp; omega, by simp [iD]⟩
    · simp [g', i1, c]
      exact ⟨W, v4, some (.v (.int (a : Int))), v6, v7, v8, hW, by omega, rfl⟩
end
end K68

namespace K68
open PL PySem Std
open FF (Nums divS)
theorem shapes_len (w : Str) (p : D) : (shapes w p).length = 17 := rfl
section
variable {ts : List Ta} {due : Int} (h : Good ts) (d0 : 0 ≤ due) (d1 : due ≤ 2000)
include h d0 d1
def W0 (ps : List Int) (w : List Str) : List D := [.tup [.str "yes", .lst (ps.map .int)], .tup [.str "no", .tup [.str "late", .lst (w.map .str)]], .tup [.str "no", .lst [.str "late", nmD w]], .tup [.str "no", .tup [.str "Late", nmD w]]]
theorem w0_no (ps : List Int) (w : List Str) (d : D) (hd : d ∈ W0 ps w) : No ts due d := by
  simp only [W0, List.mem_cons, List.not_mem_nil, or_false] at hd
  rcases hd with rfl | rfl | rfl | rfl
  · exact time_shape h d0 d1 _ rfl rfl
  · exact hb_names h d0 d1 false _ (x_names0 _ rfl 1 16 rfl)
  · exact hb_shape h d0 d1 _ rfl rfl
  · have s1 := same_str "Late" "ring"
    have s2 := same_str "Late" "late"
    have n1 : ¬ (("Late" : Str) = "ring") := by decide +kernel
    have n2 : ¬ (("Late" : Str) = "late") := by decide +kernel
    rw [decide_eq_false n1] at s1
    rw [decide_eq_false n2] at s2
    exact hb_word h d0 d1 _ _ s1 s2
theorem paper_no (ps : List Int) : No ts due (iD ps) := by
  match ps with
  | [] => exact no_shape h d0 d1 _ rfl rfl
  | [a] => exact no_shape h d0 d1 _ rfl rfl
  | [a, b] => exact no_first h d0 d1 _ _ rfl
  | a :: b :: c :: r => exact no_shape h d0 d1 _ rfl (by simp [iD]; omega)
theorem sh_yes (ps : List Int) (d : D) (hd : d ∈ shapes "yes" (iD ps)) : No ts due d :=
  no_shapes h d0 d1 "yes" (by decide +kernel) (by decide +kernel) (iD ps) rfl (paper_no h d0 d1 ps) (time_shape h d0 d1 _ rfl rfl) (time_shape h d0 d1 _ rfl rfl) (time_shape h d0 d1 _ rfl rfl) d hd
theorem sh_no (w : List Str) (d : D) (hd : d ∈ shapes "no" (.tup [.str "late", nmD w])) : No ts due d :=
  no_shapes h d0 d1 "no" (by decide +kernel) (by decide +kernel) _ rfl (no_word h d0 d1 _ _ (by decide +kernel) (by decide +kernel)) (hb_shape h d0 d1 _ rfl rfl) (hb_shape h d0 d1 _ rfl rfl) (hb_shape h d0 d1 _ rfl rfl) d hd
theorem s_other (ps : List Int) (hp : St ps) (w : List Str) (hw : Pap w) : m__law_other_kinds [sD ts due, iD ps, nmD w] = .ok (.v (.bl true)) := by
  have pl := hp.len
  have e1 : dLst1 [iD ps] = some (.o (.lst (ps.map .int))) := rfl
  have e2 : dLst1 [nmD w] = some (.o (.lst (w.map .str))) := rfl
  have e3 : dLen1 [iD ps] = some (.v (.int (ps.length : Int))) := by simp [iD]
  have x1 := x_int1' (ps.length : Int) (by omega)
  have q1 := s_shapes "yes" (by decide +kernel) (iD ps)
  have q2 := s_shapes "no" (by decide +kernel) (.tup [.str "late", nmD w])
  have y1 := sh_yes h d0 d1 ps
  have y2 := sh_no h d0 d1 w
  have n1 := shapes_len "yes" (iD ps)
  have n2 := shapes_len "no" (.tup [.str "late", nmD w])
  generalize shapes "yes" (iD ps) = S1 at *
  generalize shapes "no" (.tup [.str "late", nmD w]) = S2 at *
  simp [m__law_other_kinds, b__law_other_kinds, e1, e2]
  refine lp_eq [true, false] (h := fun r => D.str (wS r)) (J := fun i ρ => JO ts due ps w (4 + 20 * i) ρ) rfl ⟨W0 ps w, none, none, none, none, none, w0_no h d0 d1 ps w, by simp [W0], rfl⟩ ?_ ?_
  · rintro i r _ hr ⟨W, v4, v5, v6, v7, v8, hW, hl, rfl⟩
    have hi : i < 2 := (List.getElem?_eq_some_iff.mp hr).1
    obtain ⟨q, e, ρ, rfl, W2, u5, u6, u7, u8, hW2, hl2, rfl⟩ := f3_other h d0 d1 ps w hw r (4 + 20 * i) (by omega) W hW hl v5 v6 v7 v8
    simp [e]
    exact ⟨W2, _, u5, u6, u7, u8, hW2, by omega, rfl⟩
  rintro _ ⟨W, v4, v5, v6, v7, v8, hW, hl, rfl⟩
  have hl : W.length ≤ 4 + 20 * 2 := hl
  simp [e3, x1]
  refine rg_eq (J := fun i ρ => JO ts due ps w (44 + 4 * i) ρ) ⟨W, v4, v5, v6, v7, v8, hW, by omega, rfl⟩ ?_ ?_
  · rintro i _ hi ⟨W, v4, v5, v6, v7, v8, hW, hl, rfl⟩
    obtain ⟨q, e, ρ, rfl, W2, u4, u5, u6, u7, u8, hW2, hl2, rfl⟩ := f5_other h d0 d1 ps hp w i hi (44 + 4 * i) (by omega) W hW hl v4 v6 v7 v8
    simp [e]
    exact ⟨W2, u4, u5, u6, u7, u8, hW2, by omega, rfl⟩
  rintro _ ⟨W, v4, v5, v6, v7, v8, hW, hl, rfl⟩
  have k1 : W.length + 17 ≤ 16777216 := by omega
  have k1' : W.length ≤ 16777199 := by omega
  have k2 : W.length + 17 + 17 ≤ 16777216 := by omega
  have k2' : W.length + 17 ≤ 16777199 := by omega
  have k2'' : W.length ≤ 16777182 := by omega
  simp [q1, q2, n1, n2, k1, k1', k2, k2', k2'']
  refine lp_eq (W ++ (S1 ++ S2)) (h := id) (J := fun i ρ => ∃ W' v4 v5 v6 v7 v8, ρ = [some (.v (sD ts due)), some (.v (iD ps)), some (.v (nmD w)), some W', v4, v5, v6, v7, v8]) (by simp) ⟨_, _, _, _, _, _, rfl⟩ ?_ ?_
  · rintro i d _ hd ⟨W', v4, v5, v6, v7, v8, rfl⟩
    have hm := List.mem_of_getElem? hd
    have nd : No ts due d := by
      rcases List.mem_append.mp hm with q | q
      · exact hW d q
      · rcases List.mem_append.mp q with q | q
        · exact y1 d q
        · exact y2 d q
    unfold No at nd
    simp [b__law_other_kinds_f6, nd]
  · rintro _ ⟨W', v4, v5, v6, v7, v8, rfl⟩
    simp
end
end K68

namespace K68
open PL PySem Std
open FF (Nums divS)
theorem zip_sub : ∀ (ts : List Ta) (ps : List Int), ((ts.zip ps).map fun q => q.1.n).Sublist (ts.map (·.n))
  | [], _ => by simp
  | t :: ts, [] => by simp
  | t :: ts, p :: ps => by simpa using zip_sub ts ps
theorem judge_yes {ts : List Ta} (h : Good ts) {due : Int} (d0 : 0 ≤ due) (d1 : due ≤ 2000) (ps : List Int) : ∃ b : Bool, m_upholds_tasks [sD ts due, .tup [.str "yes", iD ps]] = .ok (.v (.bl b)) ∧ m__law_is_schedule [.tup (ts.map tD), .int due, iD ps] = .ok (.v (.bl b)) := by
  obtain ⟨F, hF⟩ := exists_F (ts.zip ps) (List.Sublist.nodup (zip_sub ts ps) h.nd)
  exact ⟨timely ts due F ps, up_yes h d0 d1 _ _ (s_timely ts h due ps F hF), s_sched ts h due ps F hF⟩
theorem judge_no {ts : List Ta} (h : Good ts) {due : Int} (d0 : 0 ≤ due) (d1 : due ≤ 2000) (r : Bool) (w : List Str) (hw : Pap w) : ∃ b : Bool, m_upholds_tasks [sD ts due, .tup [.str "no", .tup [.str (wS r), nmD w]]] = .ok (.v (.bl b)) ∧ m__law_is_hindrance [.tup (ts.map tD), .int due, .str (wS r), nmD w] = .ok (.v (.bl b)) := by
  obtain ⟨T, hT⟩ := exists_T ts h.nd
  have hl := hw.len
  exact ⟨_, up_no h d0 d1 _ _ (s_hind ts h due T hT r w hw.nam (by omega)), s_lhind ts h due T hT r w hw.nam (by omega)⟩
theorem plain (ns : List Int) (hl : ns.length ≤ 63) : m_law [.scr ns] = .ok (.v (.bl true)) := by
  obtain ⟨xs, hx, en⟩ := s_numbers ns hl 110 (by decide) (by decide)
  have hx : Nums 110 xs := hx
  obtain ⟨d, ⟨ts, due, h, d0, d1, rfl⟩, es⟩ := s_subject hx
  have hL := h.len
  obtain ⟨x81, _, _, g81⟩ := num_at hx 81 (by omega) (by omega)
  obtain ⟨x82, _, _, g82⟩ := num_at hx 82 (by omega) (by omega)
  obtain ⟨pss, hpl, ep⟩ := s_starts ts h due x81
  have ct : cutG (xs.map D.int) (some 83) (some 100) = ((xs.drop 83).take 17).map D.int := by
    rw [cutG_mid (by omega) (by omega)]
    simp
  have yl : ((xs.drop 83).take 17).length = 17 := by have := hx.1; simp; omega
  obtain ⟨s, ⟨zss, hz, z0, z1, rfl⟩, ez⟩ := s_names_to_try ts h ((xs.drop 83).take 17) yl
  rw [← ct] at ez
  have lb : 0 ≤ x82 % (zss.length : Int) := Int.emod_nonneg _ (by omega)
  have ll := Int.emod_lt_of_pos x82 (show (0 : Int) < zss.length by omega)
  have hne : ¬ zss = [] := fun e => by rw [e] at z0; cases z0
  obtain ⟨w, gw, mw⟩ := atI_ex (xs := zss) lb ll
  have gw := atI_map' nmD gw
  obtain ⟨T, hT⟩ := exists_T ts h.nd
  obtain ⟨se, ee, he⟩ := s_earliest ts h T hT
  have oth := fun ps hp => s_other h d0 d1 ps hp w (hz w mw)
  have jy := judge_yes h d0 d1
  have jn := judge_no h d0 d1
  simp only [m_law, b_law]
  generalize (83 : Int) = A83 at *
  generalize (100 : Int) = A100 at *
  simp only [sD] at es oth jy jn
  simp [en, es, g81, ep]
  refine lp_eq pss (h := iD) (J := fun i ρ => ∃ v3, ρ = [some (.v (.scr ns)), some (.v (.lst (xs.map .int))), some (.v (.tup [.tup (ts.map tD), .int due])), v3, none, none, none, none, some (.v (.tup (ts.map tD))), some (.v (.int due)), none, none]) rfl ⟨none, rfl⟩ ?_ ?_
  · rintro i ps _ _ ⟨v3, rfl⟩
    obtain ⟨b, e1, e2⟩ := jy ps
    have sb := s_same_bl b
    simp [b_law_f1, e1, e2, sb]
  rintro _ ⟨v3, rfl⟩
  simp [ez]
  refine lp_eq zss (h := nmD) (J := fun i ρ => ∃ v5 v10, ρ = [some (.v (.scr ns)), some (.v (.lst (xs.map .int))), some (.v (.tup [.tup (ts.map tD), .int due])), v3, some (.v (.lst (zss.map nmD))), v5, none, none, some (.v (.tup (ts.map tD))), some (.v (.int due)), v10, none]) rfl ⟨none, none, rfl⟩ ?_ ?_
  · rintro i w _ hw ⟨v5, v10, rfl⟩
    have hw := hz w (List.mem_of_getElem? hw)
    simp [b_law_f3]
    refine lp_a [true, false] (h := fun r => D.str (wS r)) (J := fun i ρ => ∃ v10, ρ = [some (.v (.scr ns)), some (.v (.lst (xs.map .int))), some (.v (.tup [.tup (ts.map tD), .int due])), v3, some (.v (.lst (zss.map nmD))), some (.v (nmD w)), none, none, some (.v (.tup (ts.map tD))), some (.v (.int due)), v10, none]) rfl ⟨v10, rfl⟩ ?_ ?_
    · rintro j r _ _ ⟨v10, rfl⟩
      obtain ⟨b, e1, e2⟩ := jn r w hw
      have sb := s_same_bl b
      simp [b_law_f2, e1, e2, sb]
    · rintro _ ⟨v10, rfl⟩
      simp
  rintro _ ⟨v5, v10, rfl⟩
  rcases he with rfl | ⟨f, hf, rfl⟩
  · simp [ee, x_eLc]
    refine lm_b ts (fun t => .int 0) (h := tD) rfl (by omega) (fun t ht => ?_) ?_
    · simp [b_law_c4]
    have o := oth (ts.map fun _ => 0) ⟨by simp; omega, fun p hp => by
      obtain ⟨t, _, rfl⟩ := List.mem_map.mp hp
      omega⟩
    simp [iD, Function.comp_def] at o
    simp [g82, z0, hne, gw, o]
  · simp [ee, x_eLc, nD]
    refine lm_b ts (fun t => .int 0) (h := tD) rfl (by omega) (fun t ht => ?_) ?_
    · simp [b_law_c4]
    simp [isnD, x_eLc]
    refine lm_b ts (fun t => .int (f t.n)) (h := tD) rfl (by omega) (fun t ht => ?_) ?_
    · have g := nGet (ts.map (·.n)) f (List.mem_map_of_mem (f := fun t : Ta => t.n) ht)
      simp [b_law_c5, tD, g]
    · have o := oth (ts.map fun t => f t.n) ⟨by simp; omega, fun p hp => by
        obtain ⟨t, ht, rfl⟩ := List.mem_map.mp hp
        exact hf t.n (List.mem_map_of_mem (f := fun t : Ta => t.n) ht)⟩
      simp [iD, Function.comp_def] at o
      simp [g82, z0, hne, gw, o]
end K68

open PySem PySem.W PyProof.Rows
set_option maxRecDepth 100000 in
set_option maxHeartbeats 0 in
theorem PySem.Challenge.cw_typefoundry_k68_task_judge_holds : PySem.Challenge.rw_typefoundry_k68_task_judge.Holds := by
  w_on; o_law; k_head; (case hw => w_witness2)
  k_fill
  refine L2.walk_of (l := PySem.Challenge.rw_typefoundry_k68_task_judge) (n := 63) (k := 42) (x := "script") (CX := fun w => L2.CX PySem.Challenge.pw_typefoundry_k68_task_judge w) (sp := fun w => PL.spL _) rfl (by decide) rfl ⟨rfl, by decide, by decide⟩ (fun w h Y => PySem.W.kIn_of Y) ?F (fun _ _ _ _ hl hO hS => PL.spL_of hl hO hS) (fun _ _ _ _ _ z => PL.noCX z)
  case F =>
    intro w mg fa h KX G hmg
    refine' K68.all_mk KX G hmg K68.plain ?g_BadTask ?s_BadTask ?t_BadTask ?e_BadTask ?k_BadTask ?v_DIGITS ?v_LAST_DUE ?v_LETTERS ?v_MOST_DAYS ?v_MOST_TASKS ?n_abs ?n_all ?n_bool ?n_int ?n_isinstance ?n_len ?n_list ?n_max ?n_min ?n_range ?n_str ?n_sum ?n_tuple ?n_zip ?a__law_numbers ?l__law_numbers ?c__law_numbers ?k__law_numbers ?a__law_name ?l__law_name ?c__law_name ?k__law_name ?a__law_pool ?l__law_pool ?c__law_pool ?k__law_pool ?a__law_earliest ?l__law_earliest ?c__law_earliest ?k__law_earliest ?a__law_due ?l__law_due ?c__law_due ?k__law_due ?a__law_subject ?l__law_subject ?c__law_subject ?k__law_subject ?a__law_latest ?l__law_latest ?c__law_latest ?k__law_latest ?a__law_starts_to_try ?l__law_starts_to_try ?c__law_starts_to_try ?k__law_starts_to_try ?a__law_stranger ?l__law_stranger ?c__law_stranger ?k__law_stranger ?a__law_walk ?l__law_walk ?c__law_walk ?k__law_walk ?a__law_names_to_try ?l__law_names_to_try ?c__law_names_to_try ?k__law_names_to_try ?a__law_wrong_shapes ?l__law_wrong_shapes ?c__law_wrong_shapes ?k__law_wrong_shapes ?a_is_tuple_of ?l_is_tuple_of ?c_is_tuple_of ?k_is_tuple_of ?a_is_whole ?l_is_whole ?c_is_whole ?k_is_whole ?a_is_whole_in ?l_is_whole_in ?c_is_whole_in ?k_is_whole_in ?a_is_name ?l_is_name ?c_is_name ?k_is_name ?a_is_names ?l_is_names ?c_is_names ?k_is_names ?a_is_task ?l_is_task ?c_is_task ?k_is_task ?a_check_tasks ?l_check_tasks ?c_check_tasks ?k_check_tasks ?a_same_single ?l_same_single ?c_same_single ?k_same_single ?a_same ?l_same ?c_same ?k_same ?a_is_hindrance ?l_is_hindrance ?c_is_hindrance ?k_is_hindrance ?a_is_answer ?l_is_answer ?c_is_answer ?k_is_answer ?a_is_timely ?l_is_timely ?c_is_timely ?k_is_timely ?a_upholds_tasks ?l_upholds_tasks ?c_upholds_tasks ?k_upholds_tasks ?a__law_other_kinds ?l__law_other_kinds ?c__law_other_kinds ?k__law_other_kinds ?a__law_same ?l__law_same ?c__law_same ?k__law_same ?a__law_is_schedule ?l__law_is_schedule ?c__law_is_schedule ?k__law_is_schedule ?a__law_is_hindrance ?l__law_is_hindrance ?c__law_is_hindrance ?k__law_is_hindrance ?a_law ?l_law ?c_law ?k_law
    (case g_BadTask => k_is)
    (case s_BadTask => k_is)
    (case t_BadTask => k_is)
    (case e_BadTask => k_exc)
    (case k_BadTask => k_is)
    (case v_DIGITS => k_is)
    (case v_LAST_DUE => k_is)
    (case v_LETTERS => k_is)
    (case v_MOST_DAYS => k_is)
    (case v_MOST_TASKS => k_is)
    (case n_abs => k_is)
    (case n_all => k_is)
    (case n_bool => k_is)
    (case n_int => k_is)
    (case n_isinstance => k_is)
    (case n_len => k_is)
    (case n_list => k_is)
    (case n_max => k_is)
    (case n_min => k_is)
    (case n_range => k_is)
    (case n_str => k_is)
    (case n_sum => k_is)
    (case n_tuple => k_is)
    (case n_zip => k_is)
    (case a__law_numbers => k_is)
    (case l__law_numbers => k_is)
    (case c__law_numbers => k_is)
    (case k__law_numbers => k_is)
    (case a__law_name => k_is)
    (case l__law_name => k_is)
    (case c__law_name => k_is)
    (case k__law_name => k_is)
    (case a__law_pool => k_is)
    (case l__law_pool => k_is)
    (case c__law_pool => k_is)
    (case k__law_pool => k_is)
    (case a__law_earliest => k_is)
    (case l__law_earliest => k_is)
    (case c__law_earliest => k_is)
    (case k__law_earliest => k_is)
    (case a__law_due => k_is)
    (case l__law_due => k_is)
    (case c__law_due => k_is)
    (case k__law_due => k_is)
    (case a__law_subject => k_is)
    (case l__law_subject => k_is)
    (case c__law_subject => k_is)
    (case k__law_subject => k_is)
    (case a__law_latest => k_is)
    (case l__law_latest => k_is)
    (case c__law_latest => k_is)
    (case k__law_latest => k_is)
    (case a__law_starts_to_try => k_is)
    (case l__law_starts_to_try => k_is)
    (case c__law_starts_to_try => k_is)
    (case k__law_starts_to_try => k_is)
    (case a__law_stranger => k_is)
    (case l__law_stranger => k_is)
    (case c__law_stranger => k_is)
    (case k__law_stranger => k_is)
    (case a__law_walk => k_is)
    (case l__law_walk => k_is)
    (case c__law_walk => k_is)
    (case k__law_walk => k_is)
    (case a__law_names_to_try => k_is)
    (case l__law_names_to_try => k_is)
    (case c__law_names_to_try => k_is)
    (case k__law_names_to_try => k_is)
    (case a__law_wrong_shapes => k_is)
    (case l__law_wrong_shapes => k_is)
    (case c__law_wrong_shapes => k_is)
    (case k__law_wrong_shapes => k_is)
    (case a_is_tuple_of => k_is)
    (case l_is_tuple_of => k_is)
    (case c_is_tuple_of => k_is)
    (case k_is_tuple_of => k_is)
    (case a_is_whole => k_is)
    (case l_is_whole => k_is)
    (case c_is_whole => k_is)
    (case k_is_whole => k_is)
    (case a_is_whole_in => k_is)
    (case l_is_whole_in => k_is)
    (case c_is_whole_in => k_is)
    (case k_is_whole_in => k_is)
    (case a_is_name => k_is)
    (case l_is_name => k_is)
    (case c_is_name => k_is)
    (case k_is_name => k_is)
    (case a_is_names => k_is)
    (case l_is_names => k_is)
    (case c_is_names => k_is)
    (case k_is_names => k_is)
    (case a_is_task => k_is)
    (case l_is_task => k_is)
    (case c_is_task => k_is)
    (case k_is_task => k_is)
    (case a_check_tasks => k_is)
    (case l_check_tasks => k_is)
    (case c_check_tasks => k_is)
    (case k_check_tasks => k_is)
    (case a_same_single => k_is)
    (case l_same_single => k_is)
    (case c_same_single => k_is)
    (case k_same_single => k_is)
    (case a_same => k_is)
    (case l_same => k_is)
    (case c_same => k_is)
    (case k_same => k_is)
    (case a_is_hindrance => k_is)
    (case l_is_hindrance => k_is)
    (case c_is_hindrance => k_is)
    (case k_is_hindrance => k_is)
    (case a_is_answer => k_is)
    (case l_is_answer => k_is)
    (case c_is_answer => k_is)
    (case k_is_answer => k_is)
    (case a_is_timely => k_is)
    (case l_is_timely => k_is)
    (case c_is_timely => k_is)
    (case k_is_timely => k_is)
    (case a_upholds_tasks => k_is)
    (case l_upholds_tasks => k_is)
    (case c_upholds_tasks => k_is)
    (case k_upholds_tasks => k_is)
    (case a__law_other_kinds => k_is)
    (case l__law_other_kinds => k_is)
    (case c__law_other_kinds => k_is)
    (case k__law_other_kinds => k_is)
    (case a__law_same => k_is)
    (case l__law_same => k_is)
    (case c__law_same => k_is)
    (case k__law_same => k_is)
    (case a__law_is_schedule => k_is)
    (case l__law_is_schedule => k_is)
    (case c__law_is_schedule => k_is)
    (case k__law_is_schedule => k_is)
    (case a__law_is_hindrance => k_is)
    (case l__law_is_hindrance => k_is)
    (case c__law_is_hindrance => k_is)
    (case k__law_is_hindrance => k_is)
    (case a_law => k_is)
    (case l_law => k_is)
    (case c_law => k_is)
    (case k_law => k_is)

