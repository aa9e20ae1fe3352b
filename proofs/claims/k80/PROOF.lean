import PyProof.Rows.All
import Wide.All
import OpenK.AllK
import Wide.FinOn
import PyProof.EqAt
import PyProof.EqKinds
import PyProof.TupleCall
import HandS.ForMost
import HandS.ForExc
import HandS.CallSlots
import HandS.Walk
import HandS.Zip
import HandS.IsInst
import HandS.Deep
import HandS.TupAny
import HandS.TupMul
import HandS.Conv
import HandS.SortInts
import HandS.Wide
import PyProof.SeqIndex
import PyProof.P3In
import HandS.StrMore
import HandS.Rev
import HandS.Style
import HandS.WordsExc
import HandS.TryOnly
import HandS.ExcIs
import HandS.Small
import HandS.Flow
import KE.GoesEnum
import HandS.More
import HandS.Gcd
import HandS.Codes
import HandS.DictComp
import PySem.Challenge.RW_typefoundry_k80_nickings_kept
set_option Elab.async false
set_option linter.all false
set_option maxRecDepth 100000
set_option maxHeartbeats 4000000
namespace PL
open PySem PySem.Spec PyProof.Rows L2

/-! ### plain values -/
inductive D where
  | non | bl (b : Bool) | int (i : Int) | str (x : Str) | tup (xs : List D) | lst (xs : List D) | dic (t : Bool) (kvs : List (D × D)) | scr (ns : List Int) | ktp (xs : List D)
  deriving Inhabited
/-- what a name holds: a value that never changes; an object of one's own; (of an expression alone) the own object of a slot -/
inductive S where
  | v (d : D) | o (d : D) | b (i : Nat)
abbrev Rho := List (Option S)
inductive Out (α : Type) where
  | ok (a : α) | exc (c : Str) (ρ : Rho) | stuck
def Out.bind {α β : Type} : Out α → (α → Out β) → Out β
  | .ok a, f => f a
  | .exc c ρ, _ => .exc c ρ
  | .stuck, _ => .stuck
instance : Monad Out where
  pure := .ok
  bind := Out.bind
@[simp] theorem bind_ok {α β : Type} (a : α) (f : α → Out β) : (Out.ok a >>= f) = f a := (rfl)
@[simp] theorem bind_exc {α β : Type} (c : Str) (ρ : Rho) (f : α → Out β) : (Out.exc c ρ >>= f) = .exc c ρ := (rfl)
@[simp] theorem bind_stuck {α β : Type} (f : α → Out β) : (Out.stuck >>= f) = .stuck := (rfl)
abbrev Ex := Rho → Out (S × Rho)

def keyD : D → Option Key
  | .int i => some (.inl i)
  | .str x => some (.inr x)
  | _ => none
def keysD : List D → Option (List Key)
  | [] => some []
  | d :: ds => (keyD d).bind fun k => (keysD ds).map (k :: ·)

/-! ### how a heap bears a value -/
/-- a list that never changes -/
def FzL (K : PySem.W.Frag) (H : Hp) (a : Addr) (xs : List V) : Prop := ∃ o, H a = some (.frz o (.lst xs))
theorem FzL.seq {K : PySem.W.Frag} {H : Hp} {a : Addr} {xs : List V} (h : FzL K H a xs) : SqL K H a xs := .inl (.inr h)
/-- a tuple that was made -/
def TpT (K : PySem.W.Frag) (H : Hp) (a : Addr) (xs : List V) : Prop := H a = some (.tup xs)
theorem TpT.of {K : PySem.W.Frag} {H : Hp} {a : Addr} {xs : List V} (h : H a = some (.tup xs)) : TpT K H a xs := h
theorem TpT.seq {K : PySem.W.Frag} {H : Hp} {a : Addr} {xs : List V} (h : TpT K H a xs) : SqT K H a xs := .inl (.inl h)
/-- a tuple of the written part (without a dict) -/
def KtT (K : PySem.W.Frag) (a : Addr) (xs : List V) : Prop :=
  ∃ (o : Obj) (its : Array Value) (n : Nat), K.lookup a = some o ∧ o.dict = none ∧ o.cls = .type "tuple" ∧ o.data = .seq its n ∧ its.size ≤ sizeLine ∧ Vals xs its.toList
theorem KtT.seq {K : PySem.W.Frag} {H : Hp} {a : Addr} {xs : List V} (h : KtT K a xs) : SqT K H a xs := by
  obtain ⟨o, its, n, h1, _, h2⟩ := h
  exact .inr ⟨o, its, n, h1, h2⟩
/-- the script's own list -/
def ScrL (K : PySem.W.Frag) (H : Hp) (a : Addr) (xs : List V) : Prop :=
  (∃ o, H a = some (.frz o (.lst xs))) ∨
    ∃ (o : Obj) (its : Array Value) (n : Nat), K.lookup a = some o ∧ o.cls = .type "list" ∧ o.dict = none ∧ o.data = .seq its n ∧ its.size ≤ sizeLine ∧ Vals xs its.toList
theorem ScrL.seq {K : PySem.W.Frag} {H : Hp} {a : Addr} {xs : List V} (h : ScrL K H a xs) : SqL K H a xs := by
  rcases h with h | h
  · exact .inl (.inr h)
  · exact .inr h
mutual
def Imm (K : PySem.W.Frag) (H : Hp) : D → V → Prop
  | .non, x => x = .non
  | .bl b, x => x = .bl b
  | .int i, x => x = .int i
  | .str z, x => x = .str z
  | .tup ds, x => ∃ a vs, x = .ref a ∧ TpT K H a vs ∧ ImmL K H ds vs
  | .lst ds, x => ∃ a vs, x = .ref a ∧ FzL K H a vs ∧ ImmL K H ds vs
  | .dic false kvs, x => ∃ a o kws, x = .ref a ∧ H a = some (.frz o (.dK kws)) ∧ ImmK K H kvs kws
  | .dic true kvs, x => ∃ a o kws, x = .ref a ∧ H a = some (.frz o (.dT kws)) ∧ ImmT K H kvs kws
  | .scr ns, x => ∃ a, x = .ref a ∧ ScrL K H a (ns.map V.int)
  | .ktp ds, x => ∃ a vs, x = .ref a ∧ KtT K a vs ∧ ImmL K H ds vs
def ImmL (K : PySem.W.Frag) (H : Hp) : List D → List V → Prop
  | [], vs => vs = []
  | d :: ds, vs => ∃ v r, vs = v :: r ∧ Imm K H d v ∧ ImmL K H ds r
def ImmK (K : PySem.W.Frag) (H : Hp) : List (D × D) → List (Key × V) → Prop
  | [], vs => vs = []
  | (k, d) :: ds, vs => ∃ kk v r, vs = (kk, v) :: r ∧ keyD k = some kk ∧ Imm K H d v ∧ ImmK K H ds r
def ImmT (K : PySem.W.Frag) (H : Hp) : List (D × D) → List (List Key × V) → Prop
  | [], vs => vs = []
  | (.tup k, d) :: ds, vs => ∃ kk v r, vs = (kk, v) :: r ∧ keysD k = some kk ∧ Imm K H d v ∧ ImmT K H ds r
  | _ :: _, _ => False
end
/-- things that never change stay -/
def Ext (H H' : Hp) : Prop := ∀ a o, H a = some o → (∀ xs, o = .tup xs → H' a = some o) ∧ ∀ ob u, o = .frz ob u → H' a = some o
theorem Ext.refl (H : Hp) : Ext H H := fun _ _ h => ⟨fun _ _ => h, fun _ _ _ => h⟩
theorem Ext.trans {H H1 H2 : Hp} (a : Ext H H1) (b : Ext H1 H2) : Ext H H2 := fun c o h =>
  ⟨fun xs e => (b c o ((a c o h).1 xs e)).1 xs e, fun ob u e => (b c o ((a c o h).2 ob u e)).2 ob u e⟩
theorem Ext.tup {H H' : Hp} (e : Ext H H') {a : Addr} {xs : List V} (h : H a = some (.tup xs)) : H' a = some (.tup xs) := (e a _ h).1 xs rfl
theorem Ext.frz {H H' : Hp} (e : Ext H H') {a : Addr} {o : Obj} {u : HO} (h : H a = some (.frz o u)) : H' a = some (.frz o u) := (e a _ h).2 o u rfl
theorem Ext.of_same {H H' : Hp} (e : Same H H') : Ext H H' := fun a o h => ⟨fun _ _ => e a o h, fun _ _ _ => e a o h⟩
theorem Ext.sqT {K : PySem.W.Frag} {H H' : Hp} (e : Ext H H') {a : Addr} {xs : List V} (h : TpT K H a xs) : TpT K H' a xs := e.tup h
theorem Ext.fzL {K : PySem.W.Frag} {H H' : Hp} (e : Ext H H') {a : Addr} {xs : List V} (h : FzL K H a xs) : FzL K H' a xs := by
  obtain ⟨o, h⟩ := h
  exact ⟨o, e.frz h⟩
theorem Ext.scrL {K : PySem.W.Frag} {H H' : Hp} (e : Ext H H') {a : Addr} {xs : List V} (h : ScrL K H a xs) : ScrL K H' a xs := by
  rcases h with ⟨o, h⟩ | h
  · exact .inl ⟨o, e.frz h⟩
  · exact .inr h
mutual
theorem Imm.ext {K : PySem.W.Frag} {H H' : Hp} (e : Ext H H') : ∀ (d : D) (x : V), Imm K H d x → Imm K H' d x
  | .non, _, h => h
  | .bl _, _, h => h
  | .int _, _, h => h
  | .str _, _, h => h
  | .tup ds, _, ⟨a, vs, e1, h1, h2⟩ => ⟨a, vs, e1, e.sqT h1, ImmL.ext e ds vs h2⟩
  | .lst ds, _, ⟨a, vs, e1, h1, h2⟩ => ⟨a, vs, e1, e.fzL h1, ImmL.ext e ds vs h2⟩
  | .dic false kvs, _, ⟨a, o, kws, e1, h1, h2⟩ => ⟨a, o, kws, e1, e.frz h1, ImmK.ext e kvs kws h2⟩
  | .dic true kvs, _, ⟨a, o, kws, e1, h1, h2⟩ => ⟨a, o, kws, e1, e.frz h1, ImmT.ext e kvs kws h2⟩
  | .scr ns, _, ⟨a, e1, h⟩ => ⟨a, e1, e.scrL h⟩
  | .ktp ds, _, ⟨a, vs, e1, h1, h2⟩ => ⟨a, vs, e1, h1, ImmL.ext e ds vs h2⟩
theorem ImmL.ext {K : PySem.W.Frag} {H H' : Hp} (e : Ext H H') : ∀ (ds : List D) (vs : List V), ImmL K H ds vs → ImmL K H' ds vs
  | [], _, h => h
  | d :: ds, _, ⟨v, r, e1, h1, h2⟩ => ⟨v, r, e1, Imm.ext e d v h1, ImmL.ext e ds r h2⟩
theorem ImmK.ext {K : PySem.W.Frag} {H H' : Hp} (e : Ext H H') : ∀ (ds : List (D × D)) (vs : List (Key × V)), ImmK K H ds vs → ImmK K H' ds vs
  | [], _, h => h
  | (_, d) :: ds, _, ⟨kk, v, r, e1, h0, h1, h2⟩ => ⟨kk, v, r, e1, h0, Imm.ext e d v h1, ImmK.ext e ds r h2⟩
theorem ImmT.ext {K : PySem.W.Frag} {H H' : Hp} (e : Ext H H') : ∀ (ds : List (D × D)) (vs : List (List Key × V)), ImmT K H ds vs → ImmT K H' ds vs
  | [], _, h => h
  | (.tup _, d) :: ds, _, ⟨kk, v, r, e1, h0, h1, h2⟩ => ⟨kk, v, r, e1, h0, Imm.ext e d v h1, ImmT.ext e ds r h2⟩
  | (.non, _) :: _, _, h => h
  | (.bl _, _) :: _, _, h => h
  | (.int _, _) :: _, _, h => h
  | (.str _, _) :: _, _, h => h
  | (.lst _, _) :: _, _, h => h
  | (.dic _ _, _) :: _, _, h => h
  | (.scr _, _) :: _, _, h => h
  | (.ktp _, _) :: _, _, h => h
end
theorem ImmL.len {K : PySem.W.Frag} {H : Hp} : ∀ {ds : List D} {vs : List V}, ImmL K H ds vs → vs.length = ds.length
  | [], _, h => by cases (show _ = _ from h); rfl
  | d :: ds, _, ⟨v, r, e1, h1, h2⟩ => by rw [e1, List.length_cons, List.length_cons, ImmL.len h2]
theorem ImmL.get {K : PySem.W.Frag} {H : Hp} : ∀ {ds : List D} {vs : List V} {i : Nat} {x : V}, ImmL K H ds vs → vs[i]? = some x → ∃ d, ds[i]? = some d ∧ Imm K H d x
  | [], _, _, _, h, e => by cases (show _ = _ from h); simp at e
  | d :: ds, _, 0, x, ⟨v, r, e1, h1, h2⟩, e => by subst e1; simp at e; subst e; exact ⟨d, rfl, h1⟩
  | d :: ds, _, i + 1, x, ⟨v, r, e1, h1, h2⟩, e => by
    subst e1
    obtain ⟨d', h3, h4⟩ := ImmL.get (i := i) (x := x) h2 (by simpa using e)
    exact ⟨d', by simpa using h3, h4⟩
theorem ImmL.get' {K : PySem.W.Frag} {H : Hp} : ∀ {ds : List D} {vs : List V} {i : Nat} {d : D}, ImmL K H ds vs → ds[i]? = some d → ∃ x, vs[i]? = some x ∧ Imm K H d x
  | [], _, _, _, h, e => by simp at e
  | d :: ds, _, 0, x, ⟨v, r, e1, h1, h2⟩, e => by subst e1; simp at e; subst e; exact ⟨v, rfl, h1⟩
  | d :: ds, _, i + 1, x, ⟨v, r, e1, h1, h2⟩, e => by
    subst e1
    obtain ⟨d', h3, h4⟩ := ImmL.get' (i := i) (d := x) h2 (by simpa using e)
    exact ⟨d', by simpa using h3, h4⟩
theorem ImmL.append {K : PySem.W.Frag} {H : Hp} : ∀ {ds es : List D} {vs ws : List V}, ImmL K H ds vs → ImmL K H es ws → ImmL K H (ds ++ es) (vs ++ ws)
  | [], _, _, _, h, h' => by cases (show _ = _ from h); exact h'
  | d :: ds, _, _, _, ⟨v, r, e1, h1, h2⟩, h' => by subst e1; exact ⟨v, _, rfl, h1, ImmL.append h2 h'⟩
theorem ImmL.snoc {K : PySem.W.Frag} {H : Hp} {ds : List D} {vs : List V} {d : D} {v : V} (h : ImmL K H ds vs) (h' : Imm K H d v) : ImmL K H (ds ++ [d]) (vs ++ [v]) := h.append ⟨v, [], rfl, h', rfl⟩
theorem ImmL.drop {K : PySem.W.Frag} {H : Hp} : ∀ {ds : List D} {vs : List V} (n : Nat), ImmL K H ds vs → ImmL K H (ds.drop n) (vs.drop n)
  | _, _, 0, h => h
  | [], _, n + 1, h => by cases (show _ = _ from h); rfl
  | d :: ds, _, n + 1, ⟨v, r, e1, h1, h2⟩ => by subst e1; exact ImmL.drop n h2
theorem ImmL.take {K : PySem.W.Frag} {H : Hp} : ∀ {ds : List D} {vs : List V} (n : Nat), ImmL K H ds vs → ImmL K H (ds.take n) (vs.take n)
  | _, _, 0, h => rfl
  | [], _, n + 1, h => by cases (show _ = _ from h); rfl
  | d :: ds, _, n + 1, ⟨v, r, e1, h1, h2⟩ => by subst e1; exact ⟨v, _, rfl, h1, ImmL.take n h2⟩
theorem ImmL.set {K : PySem.W.Frag} {H : Hp} : ∀ {ds : List D} {vs : List V} (n : Nat) {d : D} {v : V}, ImmL K H ds vs → Imm K H d v → ImmL K H (ds.set n d) (vs.set n v)
  | [], _, n, _, _, h, _ => by cases (show _ = _ from h); rfl
  | d :: ds, _, 0, _, _, ⟨v, r, e1, h1, h2⟩, h' => by subst e1; exact ⟨_, _, rfl, h', h2⟩
  | d :: ds, _, n + 1, _, _, ⟨v, r, e1, h1, h2⟩, h' => by subst e1; exact ⟨v, _, rfl, h1, ImmL.set n h2 h'⟩
theorem ImmL.erase {K : PySem.W.Frag} {H : Hp} : ∀ {ds : List D} {vs : List V} (n : Nat), ImmL K H ds vs → ImmL K H (ds.eraseIdx n) (vs.eraseIdx n)
  | [], _, n, h => by cases (show _ = _ from h); rfl
  | d :: ds, _, 0, ⟨v, r, e1, h1, h2⟩ => by subst e1; exact h2
  | d :: ds, _, n + 1, ⟨v, r, e1, h1, h2⟩ => by subst e1; exact ⟨v, _, rfl, h1, ImmL.erase n h2⟩
theorem ImmL.reverse {K : PySem.W.Frag} {H : Hp} : ∀ {ds : List D} {vs : List V}, ImmL K H ds vs → ImmL K H ds.reverse vs.reverse
  | [], _, h => by cases (show _ = _ from h); rfl
  | d :: ds, _, ⟨v, r, e1, h1, h2⟩ => by subst e1; rw [List.reverse_cons, List.reverse_cons]; exact (ImmL.reverse h2).snoc h1
theorem ImmL.none_iff {K : PySem.W.Frag} {H : Hp} {ds : List D} {vs : List V} (h : ImmL K H ds vs) : vs = [] ↔ ds = [] := by
  have := h.len
  constructor
  · intro e; subst e; exact List.length_eq_zero_iff.mp this.symm
  · intro e; subst e; exact List.length_eq_zero_iff.mp this

/-- an own object at a -/
def OwnAt (K : PySem.W.Frag) (H : Hp) (a : Addr) : D → Prop
  | .lst ds => ∃ vs, H a = some (.lst vs) ∧ ImmL K H ds vs
  | .dic false kvs => ∃ kws, H a = some (.dK kws) ∧ ImmK K H kvs kws
  | .dic true kvs => ∃ kws, H a = some (.dT kws) ∧ ImmT K H kvs kws
  | _ => False
theorem OwnAt.some {K : PySem.W.Frag} {H : Hp} {a : Addr} : ∀ {d : D}, OwnAt K H a d → ∃ u, H a = some u ∧ Mut (some u)
  | .lst ds, ⟨vs, h, _⟩ => ⟨_, h, True.intro⟩
  | .dic false kvs, ⟨_, h, _⟩ => ⟨_, h, True.intro⟩
  | .dic true kvs, ⟨_, h, _⟩ => ⟨_, h, True.intro⟩
/-- what can be read as d -/
def Rd (K : PySem.W.Frag) (H : Hp) (d : D) (x : V) : Prop := Imm K H d x ∨ ∃ a, x = .ref a ∧ OwnAt K H a d
theorem Rd.lst {K : PySem.W.Frag} {H : Hp} {ds : List D} {x : V} (h : Rd K H (.lst ds) x) : ∃ a vs, x = .ref a ∧ SqL K H a vs ∧ ImmL K H ds vs := by
  rcases h with ⟨a, vs, e, h1, h2⟩ | ⟨a, e, vs, h1, h2⟩
  · exact ⟨a, vs, e, h1.seq, h2⟩
  · exact ⟨a, vs, e, SqL.of h1, h2⟩
theorem Rd.tup {K : PySem.W.Frag} {H : Hp} {ds : List D} {x : V} (h : Rd K H (.tup ds) x) : ∃ a vs, x = .ref a ∧ TpT K H a vs ∧ ImmL K H ds vs := by
  rcases h with h | ⟨a, e, h⟩
  · exact h
  · exact h.elim
theorem Rd.int {K : PySem.W.Frag} {H : Hp} {i : Int} {x : V} (h : Rd K H (.int i) x) : x = .int i := by
  rcases h with h | ⟨a, e, h⟩
  · exact h
  · exact h.elim
theorem Rd.str {K : PySem.W.Frag} {H : Hp} {i : Str} {x : V} (h : Rd K H (.str i) x) : x = .str i := by
  rcases h with h | ⟨a, e, h⟩
  · exact h
  · exact h.elim
theorem Rd.bl {K : PySem.W.Frag} {H : Hp} {i : Bool} {x : V} (h : Rd K H (.bl i) x) : x = .bl i := by
  rcases h with h | ⟨a, e, h⟩
  · exact h
  · exact h.elim
theorem Rd.non {K : PySem.W.Frag} {H : Hp} {x : V} (h : Rd K H .non x) : x = .non := by
  rcases h with h | ⟨a, e, h⟩
  · exact h
  · exact h.elim

theorem Rd.scr {K : PySem.W.Frag} {H : Hp} {ns : List Int} {x : V} (h : Rd K H (.scr ns) x) : ∃ a, x = .ref a ∧ SqL K H a (ns.map V.int) := by
  rcases h with ⟨a, e, h⟩ | ⟨a, e, h⟩
  · exact ⟨a, e, h.seq⟩
  · exact h.elim
theorem Rd.dic {K : PySem.W.Frag} {H : Hp} {t : Bool} {kvs : List (D × D)} {x : V} (h : Rd K H (.dic t kvs) x) : ∃ a, x = .ref a := by
  rcases h with h | ⟨a, e, _⟩
  · cases t with
    | false => obtain ⟨a, _, _, e, _⟩ := h; exact ⟨a, e⟩
    | true => obtain ⟨a, _, _, e, _⟩ := h; exact ⟨a, e⟩
  · exact ⟨a, e⟩
theorem Rd.dicK {K : PySem.W.Frag} {H : Hp} {kvs : List (D × D)} {x : V} (h : Rd K H (.dic false kvs) x) : ∃ a kws, x = .ref a ∧ L2.Rd H a (.dK kws) ∧ ImmK K H kvs kws := by
  rcases h with ⟨a, o, kws, e, h1, h2⟩ | ⟨a, e, kws, h1, h2⟩
  · exact ⟨a, kws, e, .inr ⟨o, h1⟩, h2⟩
  · exact ⟨a, kws, e, .inl h1, h2⟩
theorem Rd.dicT {K : PySem.W.Frag} {H : Hp} {kvs : List (D × D)} {x : V} (h : Rd K H (.dic true kvs) x) : ∃ a kws, x = .ref a ∧ L2.Rd H a (.dT kws) ∧ ImmT K H kvs kws := by
  rcases h with ⟨a, o, kws, e, h1, h2⟩ | ⟨a, e, kws, h1, h2⟩
  · exact ⟨a, kws, e, .inr ⟨o, h1⟩, h2⟩
  · exact ⟨a, kws, e, .inl h1, h2⟩
theorem Rd.ktp {K : PySem.W.Frag} {H : Hp} {ds : List D} {x : V} (h : Rd K H (.ktp ds) x) : ∃ a vs, x = .ref a ∧ KtT K a vs ∧ ImmL K H ds vs := by
  rcases h with h | ⟨a, e, h⟩
  · exact h
  · exact h.elim
/-- a list that is tracked, or locked -/
theorem Rd.lstR {K : PySem.W.Frag} {H : Hp} {ds : List D} {x : V} (h : Rd K H (.lst ds) x) : ∃ a vs, x = .ref a ∧ L2.Rd H a (.lst vs) ∧ ImmL K H ds vs := by
  rcases h with ⟨a, vs, e, h1, h2⟩ | ⟨a, e, vs, h1, h2⟩
  · exact ⟨a, vs, e, .inr h1, h2⟩
  · exact ⟨a, vs, e, .inl h1, h2⟩
/-! ### the configuration, the state -/
structure Cf where
  prog : Program
  w : World
  K : PySem.W.Frag
  mg : Str → Option Value
  base : Heap
  N : List Str
  sc : Scope
  fn : Str → Bool
  k : Nat
  H0 : Hp
  io : List (Nat × Addr)
def Cf.ios (g : Cf) : List Nat := g.io.map (·.1)
structure At (g : Cf) (X : Cx) : Prop where
  prog : X.prog = g.prog
  w : X.w = g.w
  K : X.K = g.K
  mg : X.mg = g.mg
  base : X.base = g.base
  N : X.N = g.N
  sc : X.env.scope = g.sc
  fn : ∀ x, g.fn x = true → X.fn x = true
  room : Room g.k X.A
  calm : X.calm = true
def Own (ρ : Rho) (σ : L2.St) (a : Addr) : Prop := ∃ (i : Nat) (d : D), ρ[i]? = some (some (.o d)) ∧ σ[i]? = some (some (.ref a))
structure ER (K : PySem.W.Frag) (g : Cf) (ρ : Rho) (σ : L2.St) (H : Hp) : Prop where
  len : ρ.length = σ.length
  val : ∀ (i : Nat) (d : D), ρ[i]? = some (some (.v d)) → ∃ x, σ[i]? = some (some x) ∧ Imm K H d x
  own : ∀ (i : Nat) (d : D), ρ[i]? = some (some (.o d)) → ∃ a, σ[i]? = some (some (.ref a)) ∧ OwnAt K H a d
  bor : ∀ i j : Nat, ρ[i]? ≠ some (some (.b j))
  sep : ∀ (i j : Nat) (d d' : D) (a : Addr), ρ[i]? = some (some (.o d)) → ρ[j]? = some (some (.o d')) → σ[i]? = some (some (.ref a)) → σ[j]? = some (some (.ref a)) → i = j
  old : ∀ a o, g.H0 a = some o → (∀ p ∈ g.io, p.2 ≠ a) → H a = some o
  new : ∀ (i : Nat) (d : D) (a : Addr), ρ[i]? = some (some (.o d)) → σ[i]? = some (some (.ref a)) → g.H0 a = none ∨ (i, a) ∈ g.io
  io : ∀ p ∈ g.io, σ[p.1]? = some (some (.ref p.2)) ∧ ∃ d, ρ[p.1]? = some (some (.o d))
theorem OwnAt.same {K : PySem.W.Frag} {H H' : Hp} (e : Same H H') {a : Addr} : ∀ {d : D}, OwnAt K H a d → OwnAt K H' a d
  | .lst ds, ⟨vs, h, h2⟩ => ⟨vs, e _ _ h, ImmL.ext (Ext.of_same e) ds vs h2⟩
  | .dic false kvs, ⟨kws, h, h2⟩ => ⟨kws, e _ _ h, ImmK.ext (Ext.of_same e) kvs kws h2⟩
  | .dic true kvs, ⟨kws, h, h2⟩ => ⟨kws, e _ _ h, ImmT.ext (Ext.of_same e) kvs kws h2⟩
theorem OwnAt.ext {K : PySem.W.Frag} {H H' : Hp} (e : Ext H H') {a : Addr} (h' : H' a = H a) : ∀ {d : D}, OwnAt K H a d → OwnAt K H' a d
  | .lst ds, ⟨vs, h, h2⟩ => ⟨vs, h'.trans h, ImmL.ext e ds vs h2⟩
  | .dic false kvs, ⟨kws, h, h2⟩ => ⟨kws, h'.trans h, ImmK.ext e kvs kws h2⟩
  | .dic true kvs, ⟨kws, h, h2⟩ => ⟨kws, h'.trans h, ImmT.ext e kvs kws h2⟩
theorem ER.same {K : PySem.W.Frag} {g : Cf} {ρ : Rho} {σ : L2.St} {H H' : Hp} (R : ER K g ρ σ H) (e : Same H H') : ER K g ρ σ H' where
  len := R.len
  val := fun i d h => let ⟨x, h1, h2⟩ := R.val i d h; ⟨x, h1, Imm.ext (Ext.of_same e) d x h2⟩
  own := fun i d h => let ⟨x, h1, h2⟩ := R.own i d h; ⟨x, h1, h2.same e⟩
  bor := R.bor
  sep := R.sep
  old := fun a o h q => e a o (R.old a o h q)
  new := R.new
  io := R.io
/-- everything but the address a is kept, which is none of the own ones -/
theorem ER.but {K : PySem.W.Frag} {g : Cf} {ρ : Rho} {σ : L2.St} {H H' : Hp} {a : Addr} (R : ER K g ρ σ H) (x : Ext H H') (e : ∀ b o, b ≠ a → H b = some o → H' b = some o) (na : ¬ Own ρ σ a) (h0 : g.H0 a = none) : ER K g ρ σ H' where
  len := R.len
  val := fun i d h => let ⟨y, h1, h2⟩ := R.val i d h; ⟨y, h1, Imm.ext x d y h2⟩
  own := fun i d h => by
    obtain ⟨y, h1, h2⟩ := R.own i d h
    have hy : y ≠ a := fun z => na ⟨i, d, h, z ▸ h1⟩
    obtain ⟨u, hu, _⟩ := h2.some
    exact ⟨y, h1, h2.ext x ((e y u hy hu).trans hu.symm)⟩
  bor := R.bor
  sep := R.sep
  old := fun b o h q => e b o (fun z => by rw [z, h0] at h; cases h) (R.old b o h q)
  new := R.new
  io := R.io
/-- an expression's value -/
def SR (K : PySem.W.Frag) (g : Cf) (ρ : Rho) (σ : L2.St) (H : Hp) : S → V → Prop
  | .v d, x => Imm K H d x
  | .o d, x => ∃ a, x = .ref a ∧ OwnAt K H a d ∧ ¬ Own ρ σ a ∧ g.H0 a = none
  | .b i, x => σ[i]? = some (some x) ∧ ∃ d, ρ[i]? = some (some (.o d))
/-- .. where a new object is locked -/
def NR (K : PySem.W.Frag) (σ : L2.St) (H : Hp) : S → V → Prop
  | .v d, x => Imm K H d x
  | .o d, x => Imm K H d x
  | .b i, x => σ[i]? = some (some x)
def pk (ρ : Rho) : S → Out D
  | .v d => .ok d
  | .o d => .ok d
  | .b i => match ρ[i]? with
    | some (some (.o d)) => .ok d
    | some (some (.v d)) => .ok d
    | _ => .stuck
/-- the value, to be shared from now on -/
def fz (g : List Nat) (s : S) (ρ : Rho) : Out (D × Rho) := match s with
  | .v d => .ok (d, ρ)
  | .o d => .ok (d, ρ)
  | .b i => if i ∈ g then .stuck else match ρ[i]? with
    | some (some (.o d)) => .ok (d, ρ.set i (some (.v d)))
    | some (some (.v d)) => .ok (d, ρ)
    | _ => .stuck
theorem pk_rd {K : PySem.W.Frag} {g : Cf} {ρ' : Rho} {σ : L2.St} {H H' : Hp} {s : S} {x : V} {d : D} (n : NR K σ H s x) (R : ER K g ρ' σ H') (e : Ext H H') (h : pk ρ' s = .ok d) : Rd K H' d x := by
  cases s with
  | v d' => cases h; exact .inl (Imm.ext e _ _ n)
  | o d' => cases h; exact .inl (Imm.ext e _ _ n)
  | b i =>
    have n1 : σ[i]? = some (some x) := n
    cases hs : ρ'[i]? with
    | none => simp only [pk, hs] at h; cases h
    | some o =>
      cases o with
      | none => simp only [pk, hs] at h; cases h
      | some z =>
        cases z with
        | b j => simp only [pk, hs] at h; cases h
        | o d' =>
          simp only [pk, hs] at h
          cases h
          obtain ⟨a, h1, h2⟩ := R.own i _ hs
          rw [n1] at h1; cases h1
          exact .inr ⟨a, rfl, h2⟩
        | v d' =>
          simp only [pk, hs] at h
          cases h
          obtain ⟨y, h1, h2⟩ := R.val i _ hs
          rw [n1] at h1; cases h1
          exact .inl h2

/-! ### the judgement of an expression -/
/-- what is wanted behind a reckoning -/
def Pst (K : PySem.W.Frag) (g : Cf) (σ : L2.St) (H : Hp) (W : WX) {β : Type} (G : β → Hp → Prop) : Out β → Prop
  | .ok b => ∀ H', Ext H H' → G b H'
  | .exc c ρ' => ∀ cls H', ER K g ρ' σ H' → Ext H H' → g.mg c = some cls → W cls none σ H'
  | .stuck => False
section
variable {K : PySem.W.Frag} {g : Cf} {σ : L2.St} {H H1 : Hp} {W : WX} {α β : Type} {G : β → Hp → Prop}
theorem Pst.ext (e : Ext H H1) : ∀ {r : Out β}, Pst K g σ H W G r → Pst K g σ H1 W G r
  | .ok _, q => fun H' x => q H' (e.trans x)
  | .exc _ _, q => fun cls H' R x m => q cls H' R (e.trans x) m
  | .stuck, q => q
theorem pk_noexc {ρ ρ' : Rho} {s : S} {c : Str} (h : pk ρ s = .exc c ρ') : False := by
  cases s with
  | v d => cases h
  | o d => cases h
  | b i =>
    simp only [pk] at h
    split at h <;> cases h
theorem Pst.pk {ρ : Rho} {s : S} {k : D → Out β} (q : Pst K g σ H W G (PL.pk ρ s >>= k)) : ∃ d, PL.pk ρ s = .ok d ∧ Pst K g σ H W G (k d) := by
  cases h : PL.pk ρ s with
  | stuck => rw [h] at q; exact q.elim
  | exc c ρ' => exact (pk_noexc h).elim
  | ok d => rw [h] at q; exact ⟨d, rfl, q⟩
def liftO : Option α → Out α
  | some a => .ok a
  | none => .stuck
@[simp] theorem liftO_some (a : α) : liftO (some a) = .ok a := (rfl)
@[simp] theorem liftO_none : liftO (none : Option α) = .stuck := (rfl)
theorem Pst.opt {o : Option α} {k : α → Out β} (q : Pst K g σ H W G (liftO o >>= k)) : ∃ a, o = some a ∧ Pst K g σ H W G (k a) := by
  cases o with
  | none => exact q.elim
  | some a => exact ⟨a, rfl, q⟩
end
def tE (K : PySem.W.Frag) (g : Cf) (f : Ex) (W : WX) : TE := fun σ H Q => ∃ ρ, ER K g ρ σ H ∧ Pst K g σ H W (fun p H' => ER K g p.2 σ H' → ∀ x, SR K g p.2 σ H' p.1 x → Q x H') (f ρ)
def EOk (g : Cf) (e : Expr) (f : Ex) : Prop := ∀ (X : Cx) (W : WX), At g X → Takes X W → PE X e (tE X.K g f W)
def tN (K : PySem.W.Frag) (g : Cf) (f : Ex) (W : WX) : TE := fun σ H Q => ∃ ρ, ER K g ρ σ H ∧ Pst K g σ H W (fun p H' => ER K g p.2 σ H' → ∀ x, NR K σ H' p.1 x → Q x H') (f ρ)
theorem PE.imp {X : Cx} {e : Expr} {t t' : TE} (h : PE X e t) (hi : ∀ σ H Q, t' σ H Q → t σ H Q) : PE X e t' := ⟨fun pins s σ H Q I q => h.run pins s σ H Q I (hi σ H Q q)⟩
theorem PT.imp {X : Cx} {e : Expr} {t t' : TT} (h : PT X e t) (hi : ∀ σ H Q, t' σ H Q → t σ H Q) : PT X e t' := ⟨fun pins s σ H Q I q => h.run pins s σ H Q I (hi σ H Q q)⟩
theorem PS.imp {X : Cx} {e : Stmt} {t t' : TS} (h : PS X e t) (hi : ∀ D σ H, t' D σ H → t D σ H) : PS X e t' := ⟨fun pins s σ H D I q => h.run pins s σ H D I (hi D σ H q)⟩
theorem PSs.imp {X : Cx} {e : List Stmt} {t t' : TS} (h : PSs X e t) (hi : ∀ D σ H, t' D σ H → t D σ H) : PSs X e t' := ⟨fun pins s σ H D I q => h.run pins s σ H D I (hi D σ H q)⟩
theorem PA.imp {X : Cx} {e : List Expr} {t t' : TA} (h : PA X e t) (hi : ∀ σ H Q, t' σ H Q → t σ H Q) : PA X e t' := ⟨fun pos pins s σ H Q I q => h.run pos pins s σ H Q I (hi σ H Q q)⟩
theorem PI.imp {X : Cx} {tg e : Expr} {t t' : TI} (h : PI X tg e t) (hi : ∀ σ H Q, t' σ H Q → t σ H Q) : PI X tg e t' := ⟨fun pins s σ H Q I q => h.run pins s σ H Q I (hi σ H Q q)⟩

/-- the lock of an own object that no slot holds -/
theorem lock_tmp {K : PySem.W.Frag} {g : Cf} {ρ : Rho} {σ : L2.St} {H : Hp} {a : Addr} {d : D} (R : ER K g ρ σ H) (o : OwnAt K H a d) (no : ¬ Own ρ σ a) (h0 : g.H0 a = none) :
    ∃ u, H a = some u ∧ Mut (some u) ∧ ∀ od, ER K g ρ σ (upd H a (.frz od u)) ∧ Ext H (upd H a (.frz od u)) ∧ Imm K (upd H a (.frz od u)) d (.ref a) := by
  obtain ⟨u, hu, mu⟩ := o.some
  refine ⟨u, hu, mu, fun od => ?_⟩
  have x : Ext H (upd H a (.frz od u)) := fun b ob hb => by
    by_cases hba : b = a
    · subst hba
      rw [hu] at hb; cases hb
      exact ⟨fun xs e => by subst e; exact mu.elim, fun _ _ e => by subst e; exact mu.elim⟩
    · exact ⟨fun _ _ => by rw [upd_ne hba]; exact hb, fun _ _ _ => by rw [upd_ne hba]; exact hb⟩
  refine ⟨R.but (a := a) x (fun b ob hb hh => by rw [upd_ne hb]; exact hh) no h0, x, ?_⟩
  cases d with
  | lst ds =>
    obtain ⟨vs, h1, h2⟩ := o
    rw [hu] at h1; cases h1
    exact ⟨a, vs, rfl, ⟨od, upd_same⟩, ImmL.ext x ds vs h2⟩
  | dic t kvs =>
    cases t with
    | false =>
      obtain ⟨kws, h1, h2⟩ := o
      rw [hu] at h1; cases h1
      exact ⟨a, od, kws, rfl, upd_same, ImmK.ext x kvs kws h2⟩
    | true =>
      obtain ⟨kws, h1, h2⟩ := o
      rw [hu] at h1; cases h1
      exact ⟨a, od, kws, rfl, upd_same, ImmT.ext x kvs kws h2⟩
  | _ => exact o.elim
/-- an expression, a new object of it locked -/
theorem EOk.n {g : Cf} {e : Expr} {f : Ex} (h : EOk g e f) {X : Cx} {W : WX} (A : At g X) (tk : Takes X W) : PE X e (tN X.K g f W) := by
  refine ⟨fun pins s σ H Q I ⟨ρ, R, q⟩ => ?_⟩
  cases hf : f ρ with
  | stuck => rw [hf] at q; exact q.elim
  | exc c ρ' =>
    rw [hf] at q
    exact (h X W A tk).run pins s σ H Q I ⟨ρ, R, by rw [hf]; exact q⟩
  | ok p =>
    obtain ⟨s', ρ'⟩ := p
    rw [hf] at q
    have q : ∀ H', Ext H H' → ER X.K g ρ' σ H' → ∀ x, NR X.K σ H' s' x → Q x H' := q
    refine thn ((h X W A tk).run pins s σ H (fun x H' => ER X.K g ρ' σ H' ∧ Ext H H' ∧ SR X.K g ρ' σ H' s' x) I ⟨ρ, R, by rw [hf]; exact fun H' b a x c => ⟨a, b, c⟩⟩) fun u s1 ⟨x, H1, I1, r1, R1, e1, sr⟩ => ?_
    cases s' with
    | v d => exact ⟨x, H1, I1, r1, q H1 e1 R1 x sr⟩
    | b i => exact ⟨x, H1, I1, r1, q H1 e1 R1 x sr.1⟩
    | o d =>
      obtain ⟨a, rfl, oa, no, h0⟩ := sr
      obtain ⟨u', hu, mu, F⟩ := lock_tmp R1 oa no h0
      obtain ⟨od, I2⟩ := I1.lock hu mu
      obtain ⟨R2, e2, im⟩ := F od
      exact ⟨_, _, I2, r1, q _ (e1.trans e2) R2 _ im⟩
/-- a reckoning that begins with an expression -/
theorem tN_step {K : PySem.W.Frag} {g : Cf} {σ : L2.St} {H : Hp} {W : WX} {β : Type} {G : β → Hp → Prop} {ρ : Rho} {fa : Ex} {k : S × Rho → Out β} {Q : VK} (R : ER K g ρ σ H) (q : Pst K g σ H W G (fa ρ >>= k))
    (h : ∀ s ρ1 x H1, ER K g ρ1 σ H1 → Ext H H1 → NR K σ H1 s x → Pst K g σ H1 W G (k (s, ρ1)) → Q x H1) : tN K g fa W σ H Q := by
  refine ⟨ρ, R, ?_⟩
  cases ha : fa ρ with
  | stuck => rw [ha] at q; exact q.elim
  | exc c ρ1 => rw [ha] at q; exact q
  | ok p =>
    rw [ha] at q
    exact fun H1 E1 R1 x n => h p.1 p.2 x H1 R1 E1 n (Pst.ext E1 (r := k p) q)
end PL

namespace PL
open PySem PySem.Spec PyProof.Rows L2

section
variable {g : Cf} {e a b c : Expr} {pos : Pos}
/-! ### names, constants -/
def eVar (i : Nat) : Ex := fun ρ => match ρ[i]? with
  | some (some (.v d)) => .ok (.v d, ρ)
  | some (some (.o _)) => .ok (.b i, ρ)
  | _ => .stuck
def eC (d : D) : Ex := fun ρ => .ok (.v d, ρ)
theorem e_var {i : Nat} {x : Str} (hN : g.N[i]? = some x := by rfl) (hv : Vis g.sc x := by first | exact Or.inl rfl | exact Or.inr (Or.inl rfl) | exact Or.inr (Or.inr rfl)) (hd : (x == ("__debug__" : Str)) = false := by decide) (hcd : (x == ("__classdict__" : Str)) = false := by decide) : EOk g (.Name x pos) (eVar i) := fun X W A tk => by
  refine PE.imp (pe_var (i := i) (by rw [A.N]; exact hN) (by unfold Vis; rw [A.sc]; exact hv) hd hcd) fun σ H Q ⟨ρ, R, q⟩ => ?_
  unfold eVar at q
  cases hs : ρ[i]? with
  | none => rw [hs] at q; exact q.elim
  | some o =>
    cases o with
    | none => rw [hs] at q; exact q.elim
    | some s =>
      cases s with
      | v d =>
        rw [hs] at q
        obtain ⟨x, h1, h2⟩ := R.val i d hs
        exact ⟨x, h1, q H (Ext.refl H) R x h2⟩
      | o d =>
        rw [hs] at q
        obtain ⟨x, h1, h2⟩ := R.own i d hs
        exact ⟨_, h1, q H (Ext.refl H) R _ ⟨h1, d, hs⟩⟩
      | b j => exact absurd hs (R.bor i j)
theorem e_c {X : Cx} {W : WX} {d : D} {x : V} (h : PE X e (tC x)) (hi : ∀ H, Imm X.K H d x) : PE X e (tE X.K g (eC d) W) := PE.imp h fun σ H Q ⟨ρ, R, q⟩ => q H (Ext.refl H) R x (hi H)
theorem e_int {i : Int} {j : Nat} : EOk g (.Constant (.int i) j pos) (eC (.int i)) := fun X W A tk => e_c pe_int fun _ => rfl
theorem e_bl {i : Bool} {j : Nat} : EOk g (.Constant (.bool i) j pos) (eC (.bl i)) := fun X W A tk => e_c pe_bl fun _ => rfl
theorem e_str {i : Str} {j : Nat} : EOk g (.Constant (.str i) j pos) (eC (.str i)) := fun X W A tk => e_c pe_str fun _ => rfl
theorem e_non {j : Nat} : EOk g (.Constant .none j pos) (eC .non) := fun X W A tk => e_c pe_non fun _ => rfl
/-- a name of the module -/
def Glo (g : Cf) (x : Str) : Prop := g.sc.names.lookup x = some .globalImplicit
theorem Glo.gl {x : Str} {X : Cx} (h : Glo g x) (A : At g X) : Gl X x := by
  show X.env.scope.names.lookup x = _
  rw [A.sc]; exact h
/-- a constant of the module -/
structure Con (g : Cf) (x : Str) (d : D) : Prop where
  ex : ∃ u v, g.mg x = some u ∧ RelV v u ∧ ∀ H, Imm g.K H d v
theorem e_glob {x : Str} {d : D} (h : Con g x d) (hg : Glo g x := by rfl) (hd : (x == ("__debug__" : Str)) = false := by decide) : EOk g (.Name x pos) (eC d) := fun X W A tk => by
  obtain ⟨u, v, h1, h2, h3⟩ := h.ex
  exact e_c (pe_glob (hg.gl A) (by rw [A.mg]; exact h1) h2 hd) fun H => by rw [A.K]; exact h3 H

/-! ### operators by values -/
/-- a result: an immutable value, or a new object -/
def RS (K : PySem.W.Frag) (H H' : Hp) : S → V → Prop
  | .v d, z => Imm K H' d z
  | .o d, z => ∃ a, z = .ref a ∧ H a = none ∧ OwnAt K H' a d
  | .b _, _ => False
theorem not_own {K : PySem.W.Frag} {ρ : Rho} {σ : L2.St} {H : Hp} {a : Addr} (R : ER K g ρ σ H) (h : H a = none) : ¬ Own ρ σ a := fun ⟨i, d, h1, h2⟩ => by
  obtain ⟨a', h3, h4⟩ := R.own i d h1
  rw [h2] at h3; cases h3
  obtain ⟨u, hu, _⟩ := h4.some
  rw [h] at hu; cases hu
theorem not_old {K : PySem.W.Frag} {ρ : Rho} {σ : L2.St} {H : Hp} {a : Addr} (R : ER K g ρ σ H) (h : H a = none) : g.H0 a = none := by
  cases q : g.H0 a with
  | none => rfl
  | some o =>
    by_cases hp : ∀ p ∈ g.io, p.2 ≠ a
    · rw [R.old a o q hp] at h; cases h
    · exfalso
      apply hp
      intro p hp' e
      obtain ⟨h1, d, h2⟩ := R.io p hp'
      obtain ⟨a', h3, h4⟩ := R.own _ _ h2
      rw [h1] at h3; cases h3
      obtain ⟨u, hu, _⟩ := h4.some
      rw [e, h] at hu; cases hu
theorem RS.sr {K : PySem.W.Frag} {ρ : Rho} {σ : L2.St} {H H' : Hp} {s : S} {z : V} (R : ER K g ρ σ H) (r : RS K H H' s z) : SR K g ρ σ H' s z := by
  cases s with
  | v d => exact r
  | o d => obtain ⟨a, e, h, o⟩ := r; exact ⟨a, e, o, not_own R h, not_old R h⟩
  | b i => exact r.elim
def Op2 (X : Cx) (f : Value → Value → Sem Value) (od : D → D → Option S) : Prop :=
  ∃ r : R2, OpR X f r ∧ ∀ (x y : V) (H : Hp) (Q : VK) (d1 d2 : D) (s : S), Rd X.K H d1 x → Rd X.K H d2 y → od d1 d2 = some s → (∀ z H', Same H H' → RS X.K H H' s z → Q z H') → r x y H Q
def e2 (od : D → D → Option S) (fa fb : Ex) : Ex := fun ρ => fa ρ >>= fun p => fb p.2 >>= fun q => pk q.2 p.1 >>= fun d1 => pk q.2 q.1 >>= fun d2 => liftO (od d1 d2) >>= fun s => .ok (s, q.2)
theorem read2 {X : Cx} {W : WX} {r : R2} {od : D → D → Option S} {fa fb : Ex} {σ : L2.St} {H : Hp} {Q : VK}
    (h : ∀ (x y : V) (H : Hp) (Q : VK) (d1 d2 : D) (s : S), Rd X.K H d1 x → Rd X.K H d2 y → od d1 d2 = some s → (∀ z H', Same H H' → RS X.K H H' s z → Q z H') → r x y H Q)
    (t : tE X.K g (e2 od fa fb) W σ H Q) : tN X.K g fa W σ H fun x H1 => tN X.K g fb W σ H1 fun y H2 => r x y H2 Q := by
  obtain ⟨ρ, R, q⟩ := t
  refine tN_step R q fun s1 ρ1 x H1 R1 E1 n1 q1 => tN_step R1 q1 fun s2 ρ2 y H2 R2 E2 n2 q2 => ?_
  obtain ⟨d1, h1, q3⟩ := q2.pk
  obtain ⟨d2, h2, q4⟩ := q3.pk
  obtain ⟨s, ho, q5⟩ := q4.opt
  exact h x y H2 Q d1 d2 s (pk_rd n1 R2 E2 h1) (pk_rd n2 R2 (Ext.refl _) h2) ho fun z H' sm rs => q5 H' (Ext.of_same sm) (R2.same sm) z (rs.sr R2)
theorem e_bin {op : Operator} {od : D → D → Option S} {fa fb : Ex} (ho : ∀ X, At g X → Op2 X (binaryOp op) od) (ha : EOk g a fa) (hb : EOk g b fb) : EOk g (.BinOp a op b pos) (e2 od fa fb) := fun X W A tk => by
  obtain ⟨r, hr, h⟩ := ho X A
  exact PE.imp (pe_op hr (ha.n A tk) (hb.n A tk)) fun σ H Q t => read2 h t
end
end PL

namespace PL
open PySem PySem.Spec PyProof.Rows L2
section
variable {g : Cf} {e a b c : Expr} {es rest : List Expr} {pos : Pos}
/-! ### one value -/
def Un1 (X : Cx) (r : V → Hp → VK → Prop) (od : D → Option S) : Prop := ∀ (x : V) (H : Hp) (Q : VK) (d1 : D) (s : S), Rd X.K H d1 x → od d1 = some s → (∀ z H', Same H H' → RS X.K H H' s z → Q z H') → r x H Q
def e1 (od : D → Option S) (fa : Ex) : Ex := fun ρ => fa ρ >>= fun p => pk p.2 p.1 >>= fun d1 => liftO (od d1) >>= fun s => .ok (s, p.2)
theorem read1 {X : Cx} {W : WX} {r : V → Hp → VK → Prop} {od : D → Option S} {fa : Ex} {σ : L2.St} {H : Hp} {Q : VK} (h : Un1 X r od)
    (t : tE X.K g (e1 od fa) W σ H Q) : tN X.K g fa W σ H fun x H1 => r x H1 Q := by
  obtain ⟨ρ, R, q⟩ := t
  refine tN_step R q fun s1 ρ1 x H1 R1 E1 n1 q1 => ?_
  obtain ⟨d1, h1, q3⟩ := q1.pk
  obtain ⟨s, ho, q5⟩ := q3.opt
  exact h x H1 Q d1 s (pk_rd n1 R1 (Ext.refl _) h1) ho fun z H' sm rs => q5 H' (Ext.of_same sm) (R1.same sm) z (rs.sr R1)
theorem e_un {op : UnaryOp} {od : D → Option S} {fa : Ex} (ho : ∀ X, At g X → ∃ r, UnR X (unaryOp op) r ∧ Un1 X r od) (ha : EOk g a fa) : EOk g (.UnaryOp op a pos) (e1 od fa) := fun X W A tk => by
  obtain ⟨r, hr, h⟩ := ho X A
  exact PE.imp (pe_un hr (ha.n A tk)) fun σ H Q t => read1 h t

/-! ### tests -/
abbrev Tx := Rho → Out (Bool × Rho)
def tT (K : PySem.W.Frag) (g : Cf) (f : Tx) (W : WX) : TT := fun σ H Q => ∃ ρ, ER K g ρ σ H ∧ Pst K g σ H W (fun p H' => ER K g p.2 σ H' → Q p.1 H') (f ρ)
def TOk (g : Cf) (e : Expr) (f : Tx) : Prop := ∀ (X : Cx) (W : WX), At g X → Takes X W → PT X e (tT X.K g f W)
/-- a test's answer as a value -/
def bE (t : Tx) : Ex := fun ρ => t ρ >>= fun p => .ok (.v (.bl p.1), p.2)
theorem tT_step {K : PySem.W.Frag} {σ : L2.St} {H : Hp} {W : WX} {β : Type} {G : β → Hp → Prop} {ρ : Rho} {fa : Tx} {k : Bool × Rho → Out β} {Q : Bool → Hp → Prop} (R : ER K g ρ σ H) (q : Pst K g σ H W G (fa ρ >>= k))
    (h : ∀ s ρ1 H1, ER K g ρ1 σ H1 → Ext H H1 → Pst K g σ H1 W G (k (s, ρ1)) → Q s H1) : tT K g fa W σ H Q := by
  refine ⟨ρ, R, ?_⟩
  cases ha : fa ρ with
  | stuck => rw [ha] at q; exact q.elim
  | exc c ρ1 => rw [ha] at q; exact q
  | ok p =>
    rw [ha] at q
    exact fun H1 E1 R1 => h p.1 p.2 H1 R1 E1 (Pst.ext E1 (r := k p) q)
def dTru : D → Option Bool
  | .non => some false
  | .bl b => some b
  | .int i => some (i != 0)
  | .str x => if x.length ≤ 16777216 then some ((x.length : Int) != 0) else none
  | .tup ds => some (!ds.isEmpty)
  | .lst ds => some (!ds.isEmpty)
  | .dic _ _ => none
  | .scr ns => some (!ns.isEmpty)
  | .ktp ds => some (!ds.isEmpty)
theorem immL_empty {K : PySem.W.Frag} {H : Hp} : ∀ {ds : List D} {vs : List V}, ImmL K H ds vs → (!vs.isEmpty) = !ds.isEmpty
  | [], _, h => by cases (show _ = _ from h); rfl
  | d :: ds, _, ⟨v, r, e1, _⟩ => by subst e1; rfl
theorem tru_of {K : PySem.W.Frag} {H : Hp} {d : D} {x : V} {k : Bool} (r : Rd K H d x) (h : dTru d = some k) : TruV K x H k := by
  cases d with
  | non => cases r.non; cases h; rfl
  | bl b => cases r.bl; cases h; rfl
  | int i => cases r.int; cases h; rfl
  | str z =>
    cases r.str
    simp only [dTru] at h
    split at h
    · rename_i hz
      cases h
      exact ⟨by rw [sizeLine_eq]; exact hz, rfl⟩
    · cases h
  | tup ds =>
    obtain ⟨a, vs, rfl, h1, h2⟩ := r.tup
    cases h
    exact .inr (.inl ⟨vs, h1.seq, (immL_empty h2).symm⟩)
  | lst ds =>
    obtain ⟨a, vs, rfl, h1, h2⟩ := r.lst
    cases h
    exact .inl ⟨vs, h1, (immL_empty h2).symm⟩
  | dic t kvs => cases h
  | ktp ds =>
    obtain ⟨a, vs, rfl, h1, h2⟩ := r.ktp
    cases h
    exact .inr (.inl ⟨vs, h1.seq, (immL_empty h2).symm⟩)
  | scr ns =>
    obtain ⟨a, rfl, h1⟩ := r.scr
    cases h
    exact .inl ⟨_, h1, by cases ns <;> rfl⟩
def tTru (fa : Ex) : Tx := fun ρ => fa ρ >>= fun p => pk p.2 p.1 >>= fun d => liftO (dTru d) >>= fun b => .ok (b, p.2)
theorem t_tru {fa : Ex} (ha : EOk g a fa) (he : ∀ env whole, isTrue a env whole = (do let v ← whole; standAt a.pos; holding [v] (truthy v)) := by intro _ _; rfl) : TOk g a (tTru fa) := fun X W A tk => by
  refine PT.imp (pt_truth (ha.n A tk) (he _)) fun σ H Q ⟨ρ, R, q⟩ => ?_
  refine tN_step R q fun s1 ρ1 x H1 R1 E1 n1 q1 => ?_
  obtain ⟨d1, h1, q3⟩ := q1.pk
  obtain ⟨k, ho, q5⟩ := q3.opt
  exact ⟨k, tru_of (pk_rd n1 R1 (Ext.refl _) h1) ho, q5 H1 (Ext.refl _) R1⟩
/-- comparisons -/
def OpB (X : Cx) (f : Value → Value → Sem Value) (od : D → D → Option Bool) : Prop :=
  ∃ r : R2, OpR X f r ∧ ∀ (x y : V) (H : Hp) (Q : VK) (d1 d2 : D) (k : Bool), Rd X.K H d1 x → Rd X.K H d2 y → od d1 d2 = some k → Q (.bl k) H → r x y H Q
def t2 (od : D → D → Option Bool) (fa fb : Ex) : Tx := fun ρ => fa ρ >>= fun p => fb p.2 >>= fun q => pk q.2 p.1 >>= fun d1 => pk q.2 q.1 >>= fun d2 => liftO (od d1 d2) >>= fun k => .ok (k, q.2)
theorem readC {X : Cx} {W : WX} {β : Type} {G : β → Hp → Prop} {r : R2} {od : D → D → Option Bool} {fa fb : Ex} {σ : L2.St} {H : Hp} {Q : VK} {ρ : Rho} {k : Bool × Rho → Out β}
    (h : ∀ (x y : V) (H : Hp) (Q : VK) (d1 d2 : D) (k : Bool), Rd X.K H d1 x → Rd X.K H d2 y → od d1 d2 = some k → Q (.bl k) H → r x y H Q)
    (R : ER X.K g ρ σ H) (t : Pst X.K g σ H W G (t2 od fa fb ρ >>= k)) (hk : ∀ b ρ2 H2, ER X.K g ρ2 σ H2 → Ext H H2 → Pst X.K g σ H2 W G (k (b, ρ2)) → Q (.bl b) H2) : tN X.K g fa W σ H fun x H1 => tN X.K g fb W σ H1 fun y H2 => r x y H2 Q := by
  have bb : t2 od fa fb ρ >>= k = (fa ρ >>= fun p => fb p.2 >>= fun q => pk q.2 p.1 >>= fun d1 => pk q.2 q.1 >>= fun d2 => liftO (od d1 d2) >>= fun b => k (b, q.2)) := by
    unfold t2
    cases fa ρ with
    | stuck => rfl
    | exc c ρ1 => rfl
    | ok p =>
      simp only [bind_ok]
      cases fb p.2 with
      | stuck => rfl
      | exc c ρ1 => rfl
      | ok q =>
        simp only [bind_ok]
        cases pk q.2 p.1 with
        | stuck => rfl
        | exc c ρ1 => rfl
        | ok d1 =>
          simp only [bind_ok]
          cases pk q.2 q.1 with
          | stuck => rfl
          | exc c ρ1 => rfl
          | ok d2 =>
            simp only [bind_ok]
            cases od d1 d2 <;> rfl
  rw [bb] at t
  refine tN_step R t fun s1 ρ1 x H1 R1 E1 n1 q1 => tN_step R1 q1 fun s2 ρ2 y H2 R2 E2 n2 q2 => ?_
  obtain ⟨d1, h1, q3⟩ := q2.pk
  obtain ⟨d2, h2, q4⟩ := q3.pk
  obtain ⟨s, ho, q5⟩ := q4.opt
  exact h x y H2 Q d1 d2 s (pk_rd n1 R2 E2 h1) (pk_rd n2 R2 (Ext.refl _) h2) ho (hk s ρ2 H2 R2 (E1.trans E2) q5)
theorem bind_self {α : Type} (r : Out α) : (r >>= fun p => Out.ok p) = r := by cases r <;> rfl
theorem e_cmp {op : CmpOp} {od : D → D → Option Bool} {fa fb : Ex} (ho : ∀ X, At g X → OpB X (compareOp op) od) (ha : EOk g a fa) (hb : EOk g b fb) (hm : behindInMarks op b = false := by first | exact nomark _ | rfl) : EOk g (.Compare a [op] [b] pos) (bE (t2 od fa fb)) := fun X W A tk => by
  obtain ⟨r, hr, h⟩ := ho X A
  exact PE.imp (pe_cmpR hr (ha.n A tk) (hb.n A tk) hm) fun σ H Q ⟨ρ, R, q⟩ => readC h R q fun b ρ2 H2 R2 E2 q => q H2 (Ext.refl _) R2 _ rfl
theorem t_cmp {op : CmpOp} {od : D → D → Option Bool} {fa fb : Ex} (ho : ∀ X, At g X → OpB X (compareOp op) od) (ha : EOk g a fa) (hb : EOk g b fb) (hm : behindInMarks op b = false := by first | exact nomark _ | rfl) : TOk g (.Compare a [op] [b] pos) (t2 od fa fb) := fun X W A tk => by
  obtain ⟨r, hr, h⟩ := ho X A
  refine PT.imp (pt_cmpR hr (ha.n A tk) (hb.n A tk) hm) fun σ H Q ⟨ρ, R, q⟩ => ?_
  refine readC h R (G := fun p H' => ER X.K g p.2 σ H' → Q p.1 H') (k := fun p => .ok p) (by rw [bind_self]; exact q) fun b ρ2 H2 R2 E2 q => ⟨b, rfl, q H2 (Ext.refl _) R2⟩
def tCh (od od' : D → D → Option Bool) (fa fb fc : Ex) : Tx := fun ρ => fa ρ >>= fun p => fb p.2 >>= fun q => pk q.2 p.1 >>= fun d1 => pk q.2 q.1 >>= fun d2 => liftO (od d1 d2) >>= fun k =>
  if k = true then fc q.2 >>= fun r => pk r.2 q.1 >>= fun d2 => pk r.2 r.1 >>= fun d3 => liftO (od' d2 d3) >>= fun k' => .ok (k', r.2) else .ok (false, q.2)
theorem readCh {X : Cx} {W : WX} {r r' : R2} {od od' : D → D → Option Bool} {fa fb fc : Ex} {σ : L2.St} {H : Hp} {Q : VK} {ρ : Rho}
    (h : ∀ (x y : V) (H : Hp) (Q : VK) (d1 d2 : D) (k : Bool), Rd X.K H d1 x → Rd X.K H d2 y → od d1 d2 = some k → Q (.bl k) H → r x y H Q)
    (h' : ∀ (x y : V) (H : Hp) (Q : VK) (d1 d2 : D) (k : Bool), Rd X.K H d1 x → Rd X.K H d2 y → od' d1 d2 = some k → Q (.bl k) H → r' x y H Q)
    (R : ER X.K g ρ σ H) (t : Pst X.K g σ H W (fun p H' => ER X.K g p.2 σ H' → Q (.bl p.1) H') (tCh od od' fa fb fc ρ)) : tChain r r' (tN X.K g fa W) (tN X.K g fb W) (tN X.K g fc W) σ H Q := by
  refine tN_step R t fun s1 ρ1 x H1 R1 E1 n1 q1 => tN_step R1 q1 fun s2 ρ2 y H2 R2 E2 n2 q2 => ?_
  obtain ⟨d1, h1, q3⟩ := q2.pk
  obtain ⟨d2, h2, q4⟩ := q3.pk
  obtain ⟨k, ho, q5⟩ := q4.opt
  refine h x y H2 _ d1 d2 k (pk_rd n1 R2 E2 h1) (pk_rd n2 R2 (Ext.refl _) h2) ho ⟨k, rfl, ?_⟩
  cases k with
  | false => exact iteF (q5 H2 (Ext.refl _) R2)
  | true =>
    refine iteT (tN_step R2 q5 fun s3 ρ3 z H3 R3 E3 n3 q6 => ?_)
    obtain ⟨d2', h2', q7⟩ := q6.pk
    obtain ⟨d3, h3, q8⟩ := q7.pk
    obtain ⟨k', ho', q9⟩ := q8.opt
    exact h' y z H3 Q d2' d3 k' (pk_rd n2 R3 E3 h2') (pk_rd n3 R3 (Ext.refl _) h3) ho' (q9 H3 (Ext.refl _) R3)
theorem e_chain {op op' : CmpOp} {od od' : D → D → Option Bool} {fa fb fc : Ex} (ho : ∀ X, At g X → OpB X (compareOp op) od) (ho' : ∀ X, At g X → OpB X (compareOp op') od') (ha : EOk g a fa) (hb : EOk g b fb) (hc : EOk g c fc)
    (hm : lastMarks [op, op'] [b, c] = false := by with_unfolding_all rfl) : EOk g (.Compare a [op, op'] [b, c] pos) (bE (tCh od od' fa fb fc)) := fun X W A tk => by
  obtain ⟨r, hr, h⟩ := ho X A
  obtain ⟨r', hr', h'⟩ := ho' X A
  refine PE.imp (pe_chain hr hr' (ha.n A tk) (hb.n A tk) (hc.n A tk) hm) fun σ H Q ⟨ρ, R, q⟩ => readCh h h' R ?_
  unfold bE at q
  cases ht : tCh od od' fa fb fc ρ with
  | stuck => rw [ht] at q; exact q
  | exc c ρ1 => rw [ht] at q; exact q
  | ok p => rw [ht] at q; exact fun H' e R' => q H' e R' _ rfl
theorem t_chain {op op' : CmpOp} {od od' : D → D → Option Bool} {fa fb fc : Ex} (ho : ∀ X, At g X → OpB X (compareOp op) od) (ho' : ∀ X, At g X → OpB X (compareOp op') od') (ha : EOk g a fa) (hb : EOk g b fb) (hc : EOk g c fc)
    (hm : lastMarks [op, op'] [b, c] = false := by with_unfolding_all rfl) : TOk g (.Compare a [op, op'] [b, c] pos) (tCh od od' fa fb fc) := fun X W A tk => by
  obtain ⟨r, hr, h⟩ := ho X A
  obtain ⟨r', hr', h'⟩ := ho' X A
  refine PT.imp (pt_chain hr hr' (ha.n A tk) (hb.n A tk) (hc.n A tk) hm) fun σ H Q ⟨ρ, R, q⟩ => readCh h h' R ?_
  cases ht : tCh od od' fa fb fc ρ with
  | stuck => rw [ht] at q; exact q
  | exc c ρ1 => rw [ht] at q; exact q
  | ok p => rw [ht] at q; exact fun H' e R' => ⟨_, rfl, q H' e R'⟩
/-! ### and, or, not, if -/
def WOk (g : Cf) (e : Expr) (f : Tx) : Prop := ∀ (X : Cx) (W : WX), At g X → Takes X W → PW X e (tT X.K g f W)
theorem PW.imp {X : Cx} {e : Expr} {t t' : TT} (h : PW X e t) (hi : ∀ σ H Q, t' σ H Q → t σ H Q) : PW X e t' := ⟨fun wh pins s σ H Q I q => h.run wh pins s σ H Q I (hi σ H Q q)⟩
def tAnd (t u : Tx) : Tx := fun ρ => t ρ >>= fun p => if p.1 = true then u p.2 else .ok (false, p.2)
def tOr (t u : Tx) : Tx := fun ρ => t ρ >>= fun p => if p.1 = true then .ok (true, p.2) else u p.2
def tNot (t : Tx) : Tx := fun ρ => t ρ >>= fun p => .ok (!p.1, p.2)
theorem w_and1 {t : Tx} (h : TOk g a t) : WOk g (.BoolOp .And [a] pos) t := fun X W A tk => pw_and1 (h X W A tk)
theorem w_or1 {t : Tx} (h : TOk g a t) : WOk g (.BoolOp .Or [a] pos) t := fun X W A tk => pw_or1 (h X W A tk)
theorem w_and {t u : Tx} (h : TOk g a t) (h2 : WOk g (.BoolOp .And (b :: rest) pos) u) : WOk g (.BoolOp .And (a :: b :: rest) pos) (tAnd t u) := fun X W A tk => by
  refine PW.imp (pw_and (h X W A tk) (h2 X W A tk)) fun σ H Q ⟨ρ, R, q⟩ => tT_step R q fun k ρ1 H1 R1 E1 q1 => ?_
  cases k with
  | true => exact iteT ⟨ρ1, R1, q1⟩
  | false => exact iteF (q1 H1 (Ext.refl _) R1)
theorem w_or {t u : Tx} (h : TOk g a t) (h2 : WOk g (.BoolOp .Or (b :: rest) pos) u) : WOk g (.BoolOp .Or (a :: b :: rest) pos) (tOr t u) := fun X W A tk => by
  refine PW.imp (pw_or (h X W A tk) (h2 X W A tk)) fun σ H Q ⟨ρ, R, q⟩ => tT_step R q fun k ρ1 H1 R1 E1 q1 => ?_
  cases k with
  | true => exact iteT (q1 H1 (Ext.refl _) R1)
  | false => exact iteF ⟨ρ1, R1, q1⟩
theorem t_w {t : Tx} (h : WOk g e t) : TOk g e t := fun X W A tk => (h X W A tk).pt
theorem t_not {t : Tx} (h : TOk g a t) : TOk g (.UnaryOp .Not a pos) (tNot t) := fun X W A tk =>
  PT.imp (pt_not (h X W A tk)) fun σ H Q ⟨ρ, R, q⟩ => tT_step R q fun k ρ1 H1 R1 E1 q1 => q1 H1 (Ext.refl _) R1
/-- .. as values, of bools -/
def eAnd (fa fb : Ex) : Ex := fun ρ => fa ρ >>= fun p => pk p.2 p.1 >>= fun d => match d with
  | .bl true => fb p.2
  | .bl false => .ok (.v (.bl false), p.2)
  | _ => .stuck
def eOr (fa fb : Ex) : Ex := fun ρ => fa ρ >>= fun p => pk p.2 p.1 >>= fun d => match d with
  | .bl true => .ok (.v (.bl true), p.2)
  | .bl false => fb p.2
  | _ => .stuck
def eNot (fa : Ex) : Ex := fun ρ => fa ρ >>= fun p => pk p.2 p.1 >>= fun d => match d with
  | .bl k => .ok (.v (.bl (!k)), p.2)
  | _ => .stuck
theorem e_one {op : BoolOp} {fa : Ex} (h : EOk g a fa) : EOk g (.BoolOp op [a] pos) fa := fun X W A tk => pe_one (h X W A tk)
theorem e_and {fa fb : Ex} (h : EOk g a fa) (h2 : EOk g (.BoolOp .And (b :: rest) pos) fb) : EOk g (.BoolOp .And (a :: b :: rest) pos) (eAnd fa fb) := fun X W A tk => by
  refine PE.imp (pe_and (h.n A tk) (h2 X W A tk)) fun σ H Q ⟨ρ, R, q⟩ => tN_step R q fun s1 ρ1 x H1 R1 E1 n1 q1 => ?_
  obtain ⟨d1, h1, q3⟩ := q1.pk
  have rd := pk_rd n1 R1 (Ext.refl _) h1
  cases d1 with
  | bl k =>
    refine ⟨k, rd.bl, ?_⟩
    cases k with
    | true => exact iteT ⟨ρ1, R1, q3⟩
    | false => exact iteF (q3 H1 (Ext.refl _) R1 _ rfl)
  | _ => exact q3.elim
theorem e_or {fa fb : Ex} (h : EOk g a fa) (h2 : EOk g (.BoolOp .Or (b :: rest) pos) fb) : EOk g (.BoolOp .Or (a :: b :: rest) pos) (eOr fa fb) := fun X W A tk => by
  refine PE.imp (pe_or (h.n A tk) (h2 X W A tk)) fun σ H Q ⟨ρ, R, q⟩ => tN_step R q fun s1 ρ1 x H1 R1 E1 n1 q1 => ?_
  obtain ⟨d1, h1, q3⟩ := q1.pk
  have rd := pk_rd n1 R1 (Ext.refl _) h1
  cases d1 with
  | bl k =>
    refine ⟨k, rd.bl, ?_⟩
    cases k with
    | true => exact iteT (q3 H1 (Ext.refl _) R1 _ rfl)
    | false => exact iteF ⟨ρ1, R1, q3⟩
  | _ => exact q3.elim
theorem e_not {fa : Ex} (h : EOk g a fa) : EOk g (.UnaryOp .Not a pos) (eNot fa) := fun X W A tk => by
  refine PE.imp (pe_not (h.n A tk)) fun σ H Q ⟨ρ, R, q⟩ => tN_step R q fun s1 ρ1 x H1 R1 E1 n1 q1 => ?_
  obtain ⟨d1, h1, q3⟩ := q1.pk
  have rd := pk_rd n1 R1 (Ext.refl _) h1
  cases d1 with
  | bl k => exact ⟨k, rd.bl, q3 H1 (Ext.refl _) R1 _ rfl⟩
  | _ => exact q3.elim
def eIf (t : Tx) (fa fb : Ex) : Ex := fun ρ => t ρ >>= fun p => if p.1 = true then fa p.2 else fb p.2
theorem tE_ext {K : PySem.W.Frag} {f : Ex} {W : WX} {σ : L2.St} {H : Hp} {Q : VK} {ρ : Rho} (R : ER K g ρ σ H) (q : Pst K g σ H W (fun p H' => ER K g p.2 σ H' → ∀ x, SR K g p.2 σ H' p.1 x → Q x H') (f ρ)) : tE K g f W σ H Q := ⟨ρ, R, q⟩
theorem e_if {t : Tx} {fa fb : Ex} (h : TOk g c t) (ha : EOk g a fa) (hb : EOk g b fb) : EOk g (.IfExp c a b pos) (eIf t fa fb) := fun X W A tk => by
  refine PE.imp (pe_ifExp (h X W A tk) (ha X W A tk) (hb X W A tk)) fun σ H Q ⟨ρ, R, q⟩ => tT_step R q fun k ρ1 H1 R1 E1 q1 => ?_
  cases k with
  | true => exact iteT ⟨ρ1, R1, q1⟩
  | false => exact iteF ⟨ρ1, R1, q1⟩
end
end PL

namespace PL
open PySem PySem.Spec PyProof.Rows L2
/-! ### locks of own objects -/
theorem lock_slot {K : PySem.W.Frag} {g : Cf} {ρ : Rho} {σ : L2.St} {H : Hp} {i : Nat} {d : D} (R : ER K g ρ σ H) (hi : ρ[i]? = some (some (.o d))) (hio : i ∉ g.ios) :
    ∃ a u, σ[i]? = some (some (.ref a)) ∧ H a = some u ∧ Mut (some u) ∧ ∀ od, ER K g (ρ.set i (some (.v d))) σ (upd H a (.frz od u)) ∧ Ext H (upd H a (.frz od u)) ∧ Imm K (upd H a (.frz od u)) d (.ref a) := by
  obtain ⟨a, ha, o⟩ := R.own i d hi
  obtain ⟨u, hu, mu⟩ := o.some
  refine ⟨a, u, ha, hu, mu, fun od => ?_⟩
  have x : Ext H (upd H a (.frz od u)) := fun b ob hb => by
    by_cases hba : b = a
    · subst hba
      rw [hu] at hb; cases hb
      exact ⟨fun xs e => by subst e; exact mu.elim, fun _ _ e => by subst e; exact mu.elim⟩
    · exact ⟨fun _ _ => by rw [upd_ne hba]; exact hb, fun _ _ _ => by rw [upd_ne hba]; exact hb⟩
  have im : Imm K (upd H a (.frz od u)) d (.ref a) := by
    cases d with
    | lst ds =>
      obtain ⟨vs, h1, h2⟩ := o
      rw [hu] at h1; cases h1
      exact ⟨a, vs, rfl, ⟨od, upd_same⟩, ImmL.ext x ds vs h2⟩
    | dic t kvs =>
      cases t with
      | false =>
        obtain ⟨kws, h1, h2⟩ := o
        rw [hu] at h1; cases h1
        exact ⟨a, od, kws, rfl, upd_same, ImmK.ext x kvs kws h2⟩
      | true =>
        obtain ⟨kws, h1, h2⟩ := o
        rw [hu] at h1; cases h1
        exact ⟨a, od, kws, rfl, upd_same, ImmT.ext x kvs kws h2⟩
    | _ => exact o.elim
  have hlt : i < ρ.length := by
    rcases Nat.lt_or_ge i ρ.length with h | h
    · exact h
    · rw [List.getElem?_eq_none h] at hi; cases hi
  have notio : ∀ j, (j, a) ∉ g.io := fun j hj => by
    obtain ⟨h1, d', h2⟩ := R.io _ hj
    have := R.sep i j d d' a hi h2 ha h1
    subst this
    exact hio (List.mem_map.mpr ⟨_, hj, rfl⟩)
  have h0 : g.H0 a = none := (R.new i d a hi ha).elim id fun z => (notio i z).elim
  refine ⟨⟨by rw [List.length_set]; exact R.len, fun j e hj => ?_, fun j e hj => ?_, fun j m hj => ?_, fun j m e e' b hj hm => ?_, fun b ob hb hp => ?_, fun j e b hj hb => ?_, fun p hp => ?_⟩, x, im⟩
  · by_cases hji : j = i
    · subst hji
      rw [List.getElem?_set_self hlt] at hj
      cases hj
      exact ⟨_, ha, im⟩
    · rw [List.getElem?_set_ne (Ne.symm hji)] at hj
      obtain ⟨y, h1, h2⟩ := R.val j e hj
      exact ⟨y, h1, Imm.ext x e y h2⟩
  · have hji : j ≠ i := fun z => by
      subst z
      rw [List.getElem?_set_self hlt] at hj
      cases hj
    rw [List.getElem?_set_ne (Ne.symm hji)] at hj
    obtain ⟨b, h1, h2⟩ := R.own j e hj
    have hb : b ≠ a := fun z => by
      subst z
      exact hji (R.sep j i e d b hj hi h1 ha)
    exact ⟨b, h1, h2.ext x (upd_ne hb)⟩
  · by_cases hji : j = i
    · subst hji
      rw [List.getElem?_set_self hlt] at hj
      cases hj
    · rw [List.getElem?_set_ne (Ne.symm hji)] at hj
      exact R.bor j m hj
  · have hji : j ≠ i := fun z => by subst z; rw [List.getElem?_set_self hlt] at hj; cases hj
    have hmi : m ≠ i := fun z => by subst z; rw [List.getElem?_set_self hlt] at hm; cases hm
    rw [List.getElem?_set_ne (Ne.symm hji)] at hj
    rw [List.getElem?_set_ne (Ne.symm hmi)] at hm
    exact R.sep j m e e' b hj hm
  · rw [upd_ne (fun z => by rw [z, h0] at hb; cases hb)]
    exact R.old b ob hb hp
  · have hji : j ≠ i := fun z => by subst z; rw [List.getElem?_set_self hlt] at hj; cases hj
    rw [List.getElem?_set_ne (Ne.symm hji)] at hj
    exact R.new j e b hj hb
  · obtain ⟨h1, d', h2⟩ := R.io p hp
    refine ⟨h1, ?_⟩
    have hpi : p.1 ≠ i := fun z => hio (List.mem_map.mpr ⟨p, hp, z⟩)
    rw [List.getElem?_set_ne (Ne.symm hpi)]
    exact ⟨d', h2⟩
/-- a value is shared: locked if it is an own object -/
theorem fz_ok {X : Cx} {g : Cf} {pins : List (Addr × Obj)} {σ : L2.St} {H : Hp} {s : Shared} {z : S} {x : V} {ρ ρ' : Rho} {d : D} (I : Inv X pins σ H s) (R : ER X.K g ρ σ H) (n : NR X.K σ H z x) (h : fz g.ios z ρ = .ok (d, ρ')) :
    ∃ H', Inv X pins σ H' s ∧ ER X.K g ρ' σ H' ∧ Ext H H' ∧ Imm X.K H' d x := by
  cases z with
  | v d' => cases h; exact ⟨H, I, R, Ext.refl H, n⟩
  | o d' => cases h; exact ⟨H, I, R, Ext.refl H, n⟩
  | b i =>
    have n1 : σ[i]? = some (some x) := n
    simp only [fz] at h
    split at h
    · cases h
    · rename_i hio
      cases hs : ρ[i]? with
      | none => simp only [hs] at h; cases h
      | some o =>
        cases o with
        | none => simp only [hs] at h; cases h
        | some w =>
          cases w with
          | b j => simp only [hs] at h; cases h
          | v d' =>
            simp only [hs] at h
            cases h
            obtain ⟨y, h1, h2⟩ := R.val i _ hs
            rw [n1] at h1; cases h1
            exact ⟨H, I, R, Ext.refl H, h2⟩
          | o d' =>
            simp only [hs] at h
            cases h
            obtain ⟨a, u, ha, hu, mu, F⟩ := lock_slot R hs hio
            rw [n1] at ha; cases ha
            obtain ⟨od, I2⟩ := I.lock hu mu
            obtain ⟨R2, e2, im⟩ := F od
            exact ⟨_, I2, R2, e2, im⟩
theorem fz_noexc {l : List Nat} {ρ ρ' : Rho} {s : S} {c : Str} (h : fz l s ρ = .exc c ρ') : False := by
  cases s with
  | v d => cases h
  | o d => cases h
  | b i =>
    simp only [fz] at h
    split at h
    · cases h
    · split at h <;> cases h
def fzL (l : List Nat) : List S → Rho → Out (List D × Rho)
  | [], ρ => .ok ([], ρ)
  | s :: ss, ρ => fz l s ρ >>= fun p => fzL l ss p.2 >>= fun q => .ok (p.1 :: q.1, q.2)
def NRL (K : PySem.W.Frag) (σ : L2.St) (H : Hp) : List S → List V → Prop
  | [], xs => xs = []
  | s :: ss, xs => ∃ x r, xs = x :: r ∧ NR K σ H s x ∧ NRL K σ H ss r
theorem NR.ext {K : PySem.W.Frag} {σ : L2.St} {H H' : Hp} (e : Ext H H') : ∀ {s : S} {x : V}, NR K σ H s x → NR K σ H' s x
  | .v d, x, h => Imm.ext e d x h
  | .o d, x, h => Imm.ext e d x h
  | .b i, x, h => h
theorem NRL.ext {K : PySem.W.Frag} {σ : L2.St} {H H' : Hp} (e : Ext H H') : ∀ {s : List S} {x : List V}, NRL K σ H s x → NRL K σ H' s x
  | [], x, h => h
  | s :: ss, x, ⟨y, r, h1, h2, h3⟩ => ⟨y, r, h1, NR.ext e h2, NRL.ext e h3⟩
theorem fzL_noexc {l : List Nat} : ∀ {ss : List S} {ρ ρ' : Rho} {c : Str}, fzL l ss ρ = .exc c ρ' → False
  | [], _, _, _, h => nomatch h
  | s :: ss, ρ, ρ', c, h => by
    unfold fzL at h
    cases hs : fz l s ρ with
    | stuck => rw [hs] at h; cases h
    | exc c ρ' => exact fz_noexc hs
    | ok p =>
      rw [hs] at h
      simp only [bind_ok] at h
      cases hr : fzL l ss p.2 with
      | stuck => rw [hr] at h; cases h
      | exc c ρ' => exact fzL_noexc hr
      | ok q => rw [hr] at h; cases h
theorem fzL_ok {X : Cx} {g : Cf} {pins : List (Addr × Obj)} {σ : L2.St} {s : Shared} : ∀ {zs : List S} {xs : List V} {H : Hp} {ρ ρ' : Rho} {ds : List D}, Inv X pins σ H s → ER X.K g ρ σ H → NRL X.K σ H zs xs → fzL g.ios zs ρ = .ok (ds, ρ') →
    ∃ H', Inv X pins σ H' s ∧ ER X.K g ρ' σ H' ∧ Ext H H' ∧ ImmL X.K H' ds xs
  | [], xs, H, ρ, ρ', ds, I, R, n, h => by cases h; exact ⟨H, I, R, Ext.refl H, n⟩
  | z :: zs, xs, H, ρ, ρ', ds, I, R, ⟨y, r, h1, h2, h3⟩, h => by
    subst h1
    unfold fzL at h
    cases hs : fz g.ios z ρ with
    | stuck => rw [hs] at h; cases h
    | exc c ρ' => exact (fz_noexc hs).elim
    | ok p =>
      rw [hs] at h
      simp only [bind_ok] at h
      cases hr : fzL g.ios zs p.2 with
      | stuck => rw [hr] at h; cases h
      | exc c ρ' => exact (fzL_noexc hr).elim
      | ok q =>
        rw [hr] at h
        cases h
        obtain ⟨H1, I1, R1, E1, im1⟩ := fz_ok I R h2 (d := p.1) (ρ' := p.2) hs
        obtain ⟨H2, I2, R2, E2, im2⟩ := fzL_ok I1 R1 (NRL.ext E1 h3) (ds := q.1) (ρ' := q.2) hr
        exact ⟨H2, I2, R2, E1.trans E2, y, r, rfl, Imm.ext E2 _ _ im1, im2⟩
theorem Pst.fz {K : PySem.W.Frag} {g : Cf} {σ : L2.St} {H : Hp} {W : WX} {β : Type} {G : β → Hp → Prop} {l : List Nat} {ρ : Rho} {s : S} {k : D × Rho → Out β} (q : Pst K g σ H W G (PL.fz l s ρ >>= k)) : ∃ p, PL.fz l s ρ = .ok p ∧ Pst K g σ H W G (k p) := by
  cases h : PL.fz l s ρ with
  | stuck => rw [h] at q; exact q.elim
  | exc c ρ' => exact (fz_noexc h).elim
  | ok d => rw [h] at q; exact ⟨d, rfl, q⟩
theorem Pst.fzL {K : PySem.W.Frag} {g : Cf} {σ : L2.St} {H : Hp} {W : WX} {β : Type} {G : β → Hp → Prop} {l : List Nat} {ρ : Rho} {s : List S} {k : List D × Rho → Out β} (q : Pst K g σ H W G (PL.fzL l s ρ >>= k)) : ∃ p, PL.fzL l s ρ = .ok p ∧ Pst K g σ H W G (k p) := by
  cases h : PL.fzL l s ρ with
  | stuck => rw [h] at q; exact q.elim
  | exc c ρ' => exact (fzL_noexc h).elim
  | ok d => rw [h] at q; exact ⟨d, rfl, q⟩
section
variable {g : Cf} {e a b c : Expr} {es : List Expr} {pos : Pos}
/-- an expression whose value is shared -/
def eF (l : List Nat) (f : Ex) : Rho → Out (D × Rho) := fun ρ => f ρ >>= fun p => fz l p.1 p.2
def tF (K : PySem.W.Frag) (g : Cf) (f : Ex) (W : WX) : TE := fun σ H Q => ∃ ρ, ER K g ρ σ H ∧ Pst K g σ H W (fun p H' => ER K g p.2 σ H' → ∀ x, Imm K H' p.1 x → Q x H') (eF g.ios f ρ)
theorem EOk.f {f : Ex} (h : EOk g e f) {X : Cx} {W : WX} (A : At g X) (tk : Takes X W) : PE X e (tF X.K g f W) := by
  refine ⟨fun pins s σ H Q I ⟨ρ, R, q⟩ => ?_⟩
  have hN := (h.n A tk).run pins s σ H (fun x H' => ∃ z ρ1 p, ER X.K g ρ1 σ H' ∧ NR X.K σ H' z x ∧ fz g.ios z ρ1 = .ok p ∧ ∀ H2, Ext H' H2 → ER X.K g p.2 σ H2 → ∀ x, Imm X.K H2 p.1 x → Q x H2) I (by
    refine tN_step R q fun z ρ1 x H1 R1 E1 n1 q1 => ?_
    cases hf : fz g.ios z ρ1 with
    | stuck => rw [hf] at q1; exact q1.elim
    | exc c ρ' => exact (fz_noexc hf).elim
    | ok p => rw [hf] at q1; exact ⟨z, ρ1, p, R1, n1, hf, q1⟩)
  refine thn hN fun u s1 ⟨x, H1, I1, r1, z, ρ1, p, R1, n1, hf, q1⟩ => ?_
  obtain ⟨H2, I2, R2, E2, im⟩ := fz_ok I1 R1 n1 (d := p.1) (ρ' := p.2) hf
  exact ⟨x, H2, I2, r1, q1 H2 E2 R2 x im⟩
theorem tF_step {K : PySem.W.Frag} {σ : L2.St} {H : Hp} {W : WX} {β : Type} {G : β → Hp → Prop} {ρ : Rho} {fa : Ex} {k : D × Rho → Out β} {Q : VK} (R : ER K g ρ σ H) (q : Pst K g σ H W G (eF g.ios fa ρ >>= k))
    (h : ∀ d ρ1 x H1, ER K g ρ1 σ H1 → Ext H H1 → Imm K H1 d x → Pst K g σ H1 W G (k (d, ρ1)) → Q x H1) : tF K g fa W σ H Q := by
  refine ⟨ρ, R, ?_⟩
  cases ha : eF g.ios fa ρ with
  | stuck => rw [ha] at q; exact q.elim
  | exc c ρ1 => rw [ha] at q; exact q
  | ok p =>
    rw [ha] at q
    exact fun H1 E1 R1 x n => h p.1 p.2 x H1 R1 E1 n (Pst.ext E1 (r := k p) q)

/-! ### argument lists -/
abbrev Ax := Rho → Out (List S × Rho)
def tA (K : PySem.W.Frag) (g : Cf) (f : Ax) (W : WX) : TA := fun σ H Q => ∃ ρ, ER K g ρ σ H ∧ Pst K g σ H W (fun p H' => ER K g p.2 σ H' → ∀ x, NRL K σ H' p.1 x → Q x H') (f ρ)
def AOk (g : Cf) (es : List Expr) (f : Ax) : Prop := ∀ (X : Cx) (W : WX), At g X → Takes X W → PA X es (tA X.K g f W)
def aNil : Ax := fun ρ => .ok ([], ρ)
def aCons (f : Ex) (r : Ax) : Ax := fun ρ => f ρ >>= fun p => r p.2 >>= fun q => .ok (p.1 :: q.1, q.2)
theorem tA_step {K : PySem.W.Frag} {σ : L2.St} {H : Hp} {W : WX} {β : Type} {G : β → Hp → Prop} {ρ : Rho} {fa : Ax} {k : List S × Rho → Out β} {Q : List V → Hp → Prop} (R : ER K g ρ σ H) (q : Pst K g σ H W G (fa ρ >>= k))
    (h : ∀ s ρ1 x H1, ER K g ρ1 σ H1 → Ext H H1 → NRL K σ H1 s x → Pst K g σ H1 W G (k (s, ρ1)) → Q x H1) : tA K g fa W σ H Q := by
  refine ⟨ρ, R, ?_⟩
  cases ha : fa ρ with
  | stuck => rw [ha] at q; exact q.elim
  | exc c ρ1 => rw [ha] at q; exact q
  | ok p =>
    rw [ha] at q
    exact fun H1 E1 R1 x n => h p.1 p.2 x H1 R1 E1 n (Pst.ext E1 (r := k p) q)
theorem a_nil : AOk g [] aNil := fun X W A tk => PA.imp pa_nil fun σ H Q ⟨ρ, R, q⟩ => q H (Ext.refl H) R [] rfl
theorem a_cons {f : Ex} {r : Ax} (h : EOk g e f) (hr : AOk g es r) (hs : ∀ env, starEach (e :: es) env = (false, eval e env) :: starEach es env := by intro _; rfl) : AOk g (e :: es) (aCons f r) := fun X W A tk => by
  refine PA.imp (pa_cons (h.n A tk) (hr X W A tk) (hs _)) fun σ H Q ⟨ρ, R, q⟩ => tN_step R q fun s1 ρ1 x H1 R1 E1 n1 q1 => tA_step R1 q1 fun s2 ρ2 xs H2 R2 E2 n2 q2 => ?_
  exact q2 H2 (Ext.refl _) R2 _ ⟨x, xs, rfl, NR.ext E2 n1, n2⟩
/-- .. all of them shared -/
def aF (l : List Nat) (f : Ax) : Rho → Out (List D × Rho) := fun ρ => f ρ >>= fun p => fzL l p.1 p.2
def tAF (K : PySem.W.Frag) (g : Cf) (f : Ax) (W : WX) : TA := fun σ H Q => ∃ ρ, ER K g ρ σ H ∧ Pst K g σ H W (fun p H' => ER K g p.2 σ H' → ∀ x, ImmL K H' p.1 x → Q x H') (aF g.ios f ρ)
theorem AOk.f {f : Ax} (h : AOk g es f) {X : Cx} {W : WX} (A : At g X) (tk : Takes X W) : PA X es (tAF X.K g f W) := by
  refine ⟨fun pos pins s σ H Q I ⟨ρ, R, q⟩ => ?_⟩
  have hN := (h X W A tk).run pos pins s σ H (fun x H' => ∃ z ρ1 p, ER X.K g ρ1 σ H' ∧ NRL X.K σ H' z x ∧ fzL g.ios z ρ1 = .ok p ∧ ∀ H2, Ext H' H2 → ER X.K g p.2 σ H2 → ∀ x, ImmL X.K H2 p.1 x → Q x H2) I (by
    refine tA_step R q fun z ρ1 x H1 R1 E1 n1 q1 => ?_
    cases hf : fzL g.ios z ρ1 with
    | stuck => rw [hf] at q1; exact q1.elim
    | exc c ρ' => exact (fzL_noexc hf).elim
    | ok p => rw [hf] at q1; exact ⟨z, ρ1, p, R1, n1, hf, q1⟩)
  refine thn hN fun u s1 ⟨x, H1, I1, r1, z, ρ1, p, R1, n1, hf, q1⟩ => ?_
  obtain ⟨H2, I2, R2, E2, im⟩ := fzL_ok I1 R1 n1 (ds := p.1) (ρ' := p.2) hf
  exact ⟨x, H2, I2, r1, q1 H2 E2 R2 x im⟩
theorem tAF_step {K : PySem.W.Frag} {σ : L2.St} {H : Hp} {W : WX} {β : Type} {G : β → Hp → Prop} {ρ : Rho} {fa : Ax} {k : List D × Rho → Out β} {Q : List V → Hp → Prop} (R : ER K g ρ σ H) (q : Pst K g σ H W G (aF g.ios fa ρ >>= k))
    (h : ∀ s ρ1 x H1, ER K g ρ1 σ H1 → Ext H H1 → ImmL K H1 s x → Pst K g σ H1 W G (k (s, ρ1)) → Q x H1) : tAF K g fa W σ H Q := by
  refine ⟨ρ, R, ?_⟩
  cases ha : aF g.ios fa ρ with
  | stuck => rw [ha] at q; exact q.elim
  | exc c ρ1 => rw [ha] at q; exact q
  | ok p =>
    rw [ha] at q
    exact fun H1 E1 R1 x n => h p.1 p.2 x H1 R1 E1 n (Pst.ext E1 (r := k p) q)
/-! ### displays -/
def eTup (l : List Nat) (f : Ax) : Ex := fun ρ => aF l f ρ >>= fun p => if p.1.length ≤ 16777216 then .ok (.v (.tup p.1), p.2) else .stuck
def eLst (l : List Nat) (f : Ax) : Ex := fun ρ => aF l f ρ >>= fun p => if p.1.length ≤ 16777216 then .ok (.o (.lst p.1), p.2) else .stuck
theorem new_tup {K : PySem.W.Frag} {H : Hp} {p : Addr} {o : HO} (h : H p = none) : Same H (upd H p o) := fun b x e => by
  rw [upd_ne (ne_of_none e h)]
  exact e
theorem line_le {n : Nat} (h : n ≤ 16777216) : n ≤ sizeLine := by rw [sizeLine_eq]; exact h
theorem e_tup {f : Ax} {x1 : Nat} (h : AOk g es f) : EOk g (.Tuple es x1 pos) (eTup g.ios f) := fun X W A tk => by
  refine PE.imp (pe_tup (h.f A tk)) fun σ H Q ⟨ρ, R, q⟩ => tAF_step R q fun ds ρ1 xs H1 R1 E1 im q1 => ?_
  dsimp only at q1
  split at q1
  · rename_i hl
    refine ⟨line_le (by rw [im.len]; exact hl), fun p hp => ?_⟩
    have sm : Same H1 (upd H1 p (.tup xs)) := new_tup (K := X.K) hp
    exact q1 _ (Ext.of_same sm) (R1.same sm) _ ⟨p, xs, rfl, TpT.of upd_same, ImmL.ext (Ext.of_same sm) _ _ im⟩
  · exact q1.elim
theorem e_lst {f : Ax} (h : AOk g es f) : EOk g (.List es pos) (eLst g.ios f) := fun X W A tk => by
  refine PE.imp (pe_lst (h.f A tk)) fun σ H Q ⟨ρ, R, q⟩ => tAF_step R q fun ds ρ1 xs H1 R1 E1 im q1 => ?_
  dsimp only at q1
  split at q1
  · rename_i hl
    refine ⟨line_le (by rw [im.len]; exact hl), fun p hp => ?_⟩
    have sm : Same H1 (upd H1 p (.lst xs)) := new_tup (K := X.K) hp
    exact q1 _ (Ext.of_same sm) (R1.same sm) _ ⟨p, rfl, ⟨xs, upd_same, ImmL.ext (Ext.of_same sm) _ _ im⟩, not_own R1 hp, not_old R1 hp⟩
  · exact q1.elim
end
end PL

namespace PL
open PySem PySem.Spec PyProof.Rows L2
/-! ### equality of plain values -/
mutual
def toPy : D → PyData
  | .non => .none
  | .bl b => .bool b
  | .int i => .int i
  | .str x => .str x
  | .tup ds => .tuple (toPyL ds)
  | .lst ds => .list (toPyL ds)
  | .dic _ _ => .dict []
  | .scr _ => .dict []
  | .ktp ds => .tuple (toPyL ds)
def toPyL : List D → List PyData
  | [] => []
  | d :: ds => toPy d :: toPyL ds
end
def shp (d : D) : Bool := SeqAt.shaped (toPy d)
def eqD (d e : D) : Bool := PyData.eqv (toPy d) (toPy e)
mutual
theorem dp_imm {K : PySem.W.Frag} {H : Hp} : ∀ {d : D} {x : V}, Imm K H d x → PyData.canLay0 (toPy d) = true → Dp K H x (toPy d)
  | .non, _, h, _ => by cases (show _ = _ from h); exact .non
  | .bl b, _, h, _ => by cases (show _ = _ from h); exact .bl b
  | .int b, _, h, _ => by cases (show _ = _ from h); exact .int b
  | .str b, _, h, _ => by cases (show _ = _ from h); exact .str b
  | .tup ds, _, ⟨a, vs, e, h1, h2⟩, hc => by subst e; exact .tup h1.seq (dp_immL h2 (by simpa [toPy, PyData.canLay0] using hc))
  | .lst ds, _, ⟨a, vs, e, h1, h2⟩, hc => by subst e; exact .lst h1.seq (dp_immL h2 (by simpa [toPy, PyData.canLay0] using hc))
  | .dic _ _, _, _, hc => by simp [toPy, PyData.canLay0] at hc
  | .ktp ds, _, ⟨a, vs, e, h1, h2⟩, hc => by subst e; exact .tup h1.seq (dp_immL h2 (by simpa [toPy, PyData.canLay0] using hc))
  | .scr _, _, _, hc => by simp [toPy, PyData.canLay0] at hc
theorem dp_immL {K : PySem.W.Frag} {H : Hp} : ∀ {d : List D} {x : List V}, ImmL K H d x → PyData.canLayAll0 (toPyL d) = true → DpAll K H x (toPyL d)
  | [], _, h, _ => by cases (show _ = _ from h); exact .nil
  | d :: ds, _, ⟨v, r, e, h1, h2⟩, hc => by
    subst e
    have hc : PyData.canLay0 (toPy d) = true ∧ PyData.canLayAll0 (toPyL ds) = true := by simpa [toPyL, PyData.canLayAll0] using hc
    exact .cons (dp_imm h1 hc.1) (dp_immL h2 hc.2)
end
theorem dp_rd {K : PySem.W.Frag} {H : Hp} {d : D} {x : V} (h : Rd K H d x) (hc : PyData.canLay0 (toPy d) = true) : Dp K H x (toPy d) := by
  rcases h with h | ⟨a, e, h⟩
  · exact dp_imm h hc
  · cases d with
    | lst ds =>
      obtain ⟨vs, h1, h2⟩ := h
      subst e
      exact .lst (SqL.of h1) (dp_immL h2 (by simpa [toPy, PyData.canLay0] using hc))
    | dic t kvs => simp [toPy, PyData.canLay0] at hc
    | _ => exact h.elim
def flat : D → Bool
  | .non => true | .bl _ => true | .int _ => true | .str _ => true | _ => false
def flatX : D → D → Bool
  | .non, .non => true | .non, .int _ => true | .int _, .non => true | .non, .bl _ => true | .bl _, .non => true | .non, .str _ => true | .str _, .non => true
  | .int _, .int _ => true | .bl _, .bl _ => true | .str _, .str _ => true
  | .int _, .str _ => true | .str _, .int _ => true | .bl _, .str _ => true | .str _, .bl _ => true
  | _, _ => false
def dEq (d e : D) : Option Bool := if flatX d e = true then some (eqD d e) else if shp d = true ∧ shp e = true then some (eqD d e) else none
def dNe (d e : D) : Option Bool := (dEq d e).map (!·)
theorem flat_scal {K : PySem.W.Frag} {H : Hp} {d e : D} {x y : V} (h : flatX d e = true) (r1 : Rd K H d x) (r2 : Rd K H e y) : scal x y = true ∧ decide (x = y) = eqD d e := by
  cases d <;> cases e <;> simp only [flatX] at h <;> try (exact absurd h (by decide))
  all_goals first
    | (cases r1.non; cases r2.non; exact ⟨rfl, rfl⟩)
    | (cases r1.non; cases r2.int; exact ⟨rfl, rfl⟩)
    | (cases r1.int; cases r2.non; exact ⟨rfl, rfl⟩)
    | (cases r1.non; cases r2.bl; exact ⟨rfl, rfl⟩)
    | (cases r1.bl; cases r2.non; exact ⟨rfl, rfl⟩)
    | (cases r1.non; cases r2.str; exact ⟨rfl, rfl⟩)
    | (cases r1.str; cases r2.non; exact ⟨rfl, rfl⟩)
    | (cases r1.int; cases r2.int; exact ⟨rfl, by rw [dec_int]; rfl⟩)
    | (cases r1.bl; cases r2.bl; exact ⟨rfl, by rw [dec_bl]; rfl⟩)
    | (cases r1.str; cases r2.str; exact ⟨rfl, by rw [dec_str]; rfl⟩)
    | (cases r1.int; cases r2.str; exact ⟨rfl, rfl⟩)
    | (cases r1.str; cases r2.int; exact ⟨rfl, rfl⟩)
    | (cases r1.bl; cases r2.str; exact ⟨rfl, rfl⟩)
    | (cases r1.str; cases r2.bl; exact ⟨rfl, rfl⟩)
theorem lay_of_shp {d : D} (h : shp d = true) : PyData.canLay0 (toPy d) = true := SeqAt.canLay_of_shaped h
section
variable {g : Cf} {X : Cx}
theorem o_eq (A : At g X) : OpB X (compareOp .Eq) dEq := by
  refine ⟨_, OpR.or op_eq (op_eqD A.room.units), fun x y H Q d e k r1 r2 h q => ?_⟩
  unfold dEq at h
  split at h
  · rename_i hf
    cases h
    obtain ⟨h1, h2⟩ := flat_scal hf r1 r2
    exact .inl ⟨h1, by rw [h2]; exact q⟩
  · split at h
    · rename_i hs
      cases h
      exact .inr ⟨toPy d, toPy e, dp_rd r1 (lay_of_shp hs.1), dp_rd r2 (lay_of_shp hs.2), hs.1, hs.2, q⟩
    · cases h
theorem o_ne (A : At g X) : OpB X (compareOp .NotEq) dNe := by
  refine ⟨_, OpR.or op_ne (op_neD A.room.units), fun x y H Q d e k r1 r2 h q => ?_⟩
  unfold dNe dEq at h
  split at h
  · rename_i hf
    cases h
    obtain ⟨h1, h2⟩ := flat_scal hf r1 r2
    exact .inl ⟨h1, by rw [h2]; exact q⟩
  · split at h
    · rename_i hs
      cases h
      exact .inr ⟨toPy d, toPy e, dp_rd r1 (lay_of_shp hs.1), dp_rd r2 (lay_of_shp hs.2), hs.1, hs.2, q⟩
    · cases h
/-! ### order -/
def intsD : List D → Option (List Int)
  | [] => some []
  | .int i :: ds => (intsD ds).map (i :: ·)
  | _ :: _ => none
theorem immL_ints {K : PySem.W.Frag} {H : Hp} : ∀ {ds : List D} {vs : List V} {ns : List Int}, ImmL K H ds vs → intsD ds = some ns → vs = ns.map V.int
  | [], _, _, h, e => by cases (show _ = _ from h); cases e; rfl
  | .int i :: ds, _, ns, ⟨v, r, e1, h1, h2⟩, e => by
    subst e1
    cases (show _ = _ from h1)
    simp only [intsD] at e
    cases hh : intsD ds with
    | none => rw [hh] at e; cases e
    | some ms =>
      rw [hh] at e
      cases e
      rw [List.map_cons, immL_ints h2 hh]
  | .non :: _, _, _, _, e => nomatch e
  | .bl _ :: _, _, _, _, e => nomatch e
  | .str _ :: _, _, _, _, e => nomatch e
  | .tup _ :: _, _, _, _, e => nomatch e
  | .lst _ :: _, _, _, _, e => nomatch e
  | .dic _ _ :: _, _, _, _, e => nomatch e
  | .scr _ :: _, _, _, _, e => nomatch e
  | .ktp _ :: _, _, _, _, e => nomatch e
def dLt : D → D → Option Bool
  | .int i, .int j => some (decide (i < j))
  | .str i, .str j => some (decide (i.cps.toList < j.cps.toList))
  | .tup ds, .tup es => match intsD ds, intsD es with
    | some ns, some ms => some (HT.lexLt ns ms)
    | _, _ => none
  | _, _ => none
theorem o_lt (A : At g X) : OpB X (compareOp .Lt) dLt := by
  refine ⟨_, OpR.or op_lt (OpR.or op_lt_str (op_ltT A.room.units0)), fun x y H Q d e k r1 r2 h q => ?_⟩
  cases d <;> cases e <;> simp only [dLt] at h <;> try (cases h; done)
  · cases h; exact .inl ⟨_, _, r1.int, r2.int, q⟩
  · cases h; exact .inr (.inl ⟨_, _, r1.str, r2.str, q⟩)
  · rename_i ds es
    cases h1 : intsD ds with
    | none => rw [h1] at h; cases h
    | some ns =>
      cases h2 : intsD es with
      | none => rw [h1, h2] at h; cases h
      | some ms =>
        rw [h1, h2] at h
        cases h
        obtain ⟨a, vs, e1, s1, i1⟩ := r1.tup
        obtain ⟨b, ws, e2, s2, i2⟩ := r2.tup
        exact .inr (.inr ⟨a, b, ns, ms, e1, e2, by rw [← immL_ints i1 h1]; exact s1.seq, by rw [← immL_ints i2 h2]; exact s2.seq, q⟩)
def dLe : D → D → Option Bool
  | .int i, .int j => some (decide (i ≤ j))
  | .str i, .str j => some (!decide (j.cps.toList < i.cps.toList))
  | _, _ => none
def dGt : D → D → Option Bool
  | .int i, .int j => some (decide (j < i))
  | .str i, .str j => some (decide (j.cps.toList < i.cps.toList))
  | _, _ => none
def dGe : D → D → Option Bool
  | .int i, .int j => some (decide (j ≤ i))
  | .str i, .str j => some (!decide (i.cps.toList < j.cps.toList))
  | _, _ => none
theorem o_le (A : At g X) : OpB X (compareOp .LtE) dLe := by
  refine ⟨_, OpR.or op_le op_le_str, fun x y H Q d e k r1 r2 h q => ?_⟩
  cases d <;> cases e <;> simp only [dLe] at h <;> cases h
  · exact .inl ⟨_, _, r1.int, r2.int, q⟩
  · exact .inr ⟨_, _, r1.str, r2.str, q⟩
theorem o_gt (A : At g X) : OpB X (compareOp .Gt) dGt := by
  refine ⟨_, OpR.or op_gt op_gt_str, fun x y H Q d e k r1 r2 h q => ?_⟩
  cases d <;> cases e <;> simp only [dGt] at h <;> cases h
  · exact .inl ⟨_, _, r1.int, r2.int, q⟩
  · exact .inr ⟨_, _, r1.str, r2.str, q⟩
theorem o_ge (A : At g X) : OpB X (compareOp .GtE) dGe := by
  refine ⟨_, OpR.or op_ge op_ge_str, fun x y H Q d e k r1 r2 h q => ?_⟩
  cases d <;> cases e <;> simp only [dGe] at h <;> cases h
  · exact .inl ⟨_, _, r1.int, r2.int, q⟩
  · exact .inr ⟨_, _, r1.str, r2.str, q⟩
/-- is None, is not None -/
def dIsNon : D → Bool
  | .non => true
  | _ => false
def dIsBl (k : Bool) : D → Bool
  | .bl b => b == k
  | _ => false
def dIs (d e : D) : Option Bool := match e with
  | .non => some (dIsNon d)
  | .bl k => some (dIsBl k d)
  | _ => none
def dIsNot (d e : D) : Option Bool := match e with
  | .non => some (!dIsNon d)
  | .bl k => some (!dIsBl k d)
  | _ => none
theorem isNon_of {K : PySem.W.Frag} {H : Hp} {d : D} {x : V} (r : Rd K H d x) : decide (x = .non) = dIsNon d := by
  cases d with
  | non => cases r.non; rfl
  | bl b => cases r.bl; rfl
  | int b => cases r.int; rfl
  | str b => cases r.str; rfl
  | tup ds => obtain ⟨a, vs, e, _⟩ := r.tup; subst e; rfl
  | lst ds => obtain ⟨a, vs, e, _⟩ := r.lst; subst e; rfl
  | dic t ds =>
    obtain ⟨a, e⟩ := r.dic
    subst e; rfl
  | scr ns => obtain ⟨a, e, _⟩ := r.scr; subst e; rfl
  | ktp ds => obtain ⟨a, vs, e, _⟩ := r.ktp; subst e; rfl
def vIsBl (k : Bool) : V → Bool
  | .bl b => b == k
  | _ => false
def okIs : V → Bool
  | .non => true | .bl _ => true | .int _ => true | .str _ => true | .ref _ => true | _ => false
theorem isBl_of {K : PySem.W.Frag} {H : Hp} {d : D} {x : V} {k : Bool} (r : Rd K H d x) : okIs x = true ∧ vIsBl k x = dIsBl k d := by
  cases d with
  | non => cases r.non; exact ⟨rfl, rfl⟩
  | bl b => cases r.bl; exact ⟨rfl, rfl⟩
  | int b => cases r.int; exact ⟨rfl, rfl⟩
  | str b => cases r.str; exact ⟨rfl, rfl⟩
  | tup ds => obtain ⟨a, vs, e, _⟩ := r.tup; subst e; exact ⟨rfl, rfl⟩
  | lst ds => obtain ⟨a, vs, e, _⟩ := r.lst; subst e; exact ⟨rfl, rfl⟩
  | dic t ds =>
    obtain ⟨a, e⟩ := r.dic
    subst e; exact ⟨rfl, rfl⟩
  | scr ns => obtain ⟨a, e, _⟩ := r.scr; subst e; exact ⟨rfl, rfl⟩
  | ktp ds => obtain ⟨a, vs, e, _⟩ := r.ktp; subst e; exact ⟨rfl, rfl⟩
theorem beq_bool (b k : Bool) : (Value.bool b == Value.bool k) = (b == k) := by cases b <;> cases k <;> decide
theorem op_isB : OpR X (compareOp .Is) (fun x y H Q => ∃ k, y = .bl k ∧ okIs x = true ∧ Q (.bl (vIsBl k x)) H) := by
  intro pins s σ H x y v u Q I rx ry h
  obtain ⟨k, rfl, ho, q⟩ := h
  cases ry
  cases x with
  | non => cases rx; exact wpAny_is_plain rfl (fin_bl I q (by cases k <;> rfl))
  | bl b => cases rx; exact wpAny_is_plain rfl (fin_bl I q (beq_bool b k).symm)
  | int b => obtain ⟨t, rfl⟩ := rx; exact wpAny_is_plain rfl (fin_bl I q (by cases k <;> rfl))
  | str b => obtain ⟨t, rfl⟩ := rx; exact wpAny_is_plain rfl (fin_bl I q (by cases k <;> rfl))
  | ref b => cases rx; exact wpAny_is_plain rfl (fin_bl I q (by cases k <;> rfl))
  | _ => cases ho
theorem op_isNotB : OpR X (compareOp .IsNot) (fun x y H Q => ∃ k, y = .bl k ∧ okIs x = true ∧ Q (.bl (!vIsBl k x)) H) := by
  intro pins s σ H x y v u Q I rx ry h
  obtain ⟨k, rfl, ho, q⟩ := h
  cases ry
  cases x with
  | non => cases rx; exact wpAny_isNot_plain rfl (fin_bl I q (by cases k <;> rfl))
  | bl b => cases rx; exact wpAny_isNot_plain rfl (fin_bl I q (by rw [beq_bool] <;> rfl))
  | int b => obtain ⟨t, rfl⟩ := rx; exact wpAny_isNot_plain rfl (fin_bl I q (by cases k <;> rfl))
  | str b => obtain ⟨t, rfl⟩ := rx; exact wpAny_isNot_plain rfl (fin_bl I q (by cases k <;> rfl))
  | ref b => cases rx; exact wpAny_isNot_plain rfl (fin_bl I q (by cases k <;> rfl))
  | _ => cases ho
theorem o_is (A : At g X) : OpB X (compareOp .Is) dIs := by
  refine ⟨_, OpR.or op_isN op_isB, fun x y H Q d e k r1 r2 h q => ?_⟩
  cases e <;> simp only [dIs] at h <;> cases h
  · exact .inl ⟨r2.non, by rw [isNon_of r1]; exact q⟩
  · obtain ⟨o1, o2⟩ := isBl_of r1
    exact .inr ⟨_, r2.bl, o1, by rw [o2]; exact q⟩
theorem o_isnot (A : At g X) : OpB X (compareOp .IsNot) dIsNot := by
  refine ⟨_, OpR.or op_notN op_isNotB, fun x y H Q d e k r1 r2 h q => ?_⟩
  cases e <;> simp only [dIsNot] at h <;> cases h
  · exact .inl ⟨r2.non, by rw [isNon_of r1]; exact q⟩
  · obtain ⟨o1, o2⟩ := isBl_of r1
    exact .inr ⟨_, r2.bl, o1, by rw [o2]; exact q⟩
/-! ### arithmetic -/
def dAdd : D → D → Option S
  | .int a, .int b => some (.v (.int (a + b)))
  | .str a, .str b => if a.length + b.length ≤ 16777216 then some (.v (.str (a ++ b))) else none
  | .tup a, .tup b => if a.length + b.length ≤ 16777216 then some (.v (.tup (a ++ b))) else none
  | .lst a, .lst b => if a.length + b.length ≤ 16777216 then some (.o (.lst (a ++ b))) else none
  | _, _ => none
def rCatL : R2 := fun x y H Q => ∃ l b xs zs, x = .ref l ∧ y = .ref b ∧ L2.Rd H l (.lst xs) ∧ L2.Rd H b (.lst zs) ∧ xs.length + zs.length ≤ sizeLine ∧ ∀ p, H p = none → Q (.ref p) (upd H p (.lst (xs ++ zs)))
theorem lstR {pins : List (Addr × Obj)} {σ : L2.St} {H : Hp} {s : Shared} {l : Addr} {xs : List V} (I : Inv X pins σ H s) (h : L2.Rd H l (.lst xs)) :
    xs.length ≤ sizeLine ∧ ∃ (its : List Value) (n : Nat), Vals xs its ∧ xs.length = its.length ∧ s.heap.get? l = some { cls := .type "list", data := .seq its.toArray n } := by
  obtain ⟨z, its, n, r, e⟩ := h.ok I.hok
  exact ⟨z, its, n, r, r.length, e⟩
theorem op_catL : OpR X (binaryOp .Add) rCatL := by
  intro pins s σ H x y v u Q I rx ry h
  obtain ⟨l, b, xs, zs, rfl, rfl, hH, hB, hz, q⟩ := h
  cases rx
  cases ry
  obtain ⟨z, its, n, r, hl, e⟩ := lstR I hH
  obtain ⟨z2, its2, n2, r2, hl2, e2⟩ := lstR I hB
  refine PySem.P.add_list e e2 ?_ (by rw [List.size_toArray, List.size_toArray]; omega)
  have ea : its.toArray ++ its2.toArray = (its ++ its2).toArray := by simp
  rw [ea]
  exact ⟨.ref _, _, I.lnew (t' := s.toks) (r.append r2) (by rw [List.length_append]; omega), rfl, q _ I.fresh⟩
theorem o_add (A : At g X) : Op2 X (binaryOp .Add) dAdd := by
  refine ⟨_, OpR.or op_add (OpR.or op_add_str (OpR.or op_catA op_catL)), fun x y H Q d e s r1 r2 h q => ?_⟩
  cases d <;> cases e <;> simp only [dAdd] at h <;> try (cases h; done)
  · cases h; exact .inl ⟨_, _, r1.int, r2.int, q _ H (Same.refl H) rfl⟩
  · split at h
    · rename_i hz
      cases h
      exact .inr (.inl ⟨_, _, r1.str, r2.str, line_le hz, q _ H (Same.refl H) rfl⟩)
    · cases h
  · split at h
    · rename_i hz
      cases h
      obtain ⟨a, vs, e1, s1, i1⟩ := r1.tup
      obtain ⟨b, ws, e2, s2, i2⟩ := r2.tup
      refine .inr (.inr (.inl ⟨a, b, vs, ws, e1, e2, s1.seq, s2.seq, line_le (by rw [i1.len, i2.len]; exact hz), fun e => ?_, fun e e' => ?_, fun e e' p hp => ?_⟩))
      · have := i1.none_iff.mp e
        subst this
        exact q _ H (Same.refl H) ⟨b, ws, rfl, s2, i2⟩
      · have := i2.none_iff.mp e'
        subst this
        rw [List.append_nil] at q
        exact q _ H (Same.refl H) ⟨a, vs, rfl, s1, i1⟩
      · exact q _ _ (new_tup (K := X.K) hp) ⟨p, _, rfl, TpT.of upd_same, ImmL.ext (Ext.of_same (new_tup (K := X.K) hp)) _ _ (i1.append i2)⟩
    · cases h
  · split at h
    · rename_i hz
      cases h
      obtain ⟨a, vs, e1, s1, i1⟩ := r1.lstR
      obtain ⟨b, ws, e2, s2, i2⟩ := r2.lstR
      refine .inr (.inr (.inr ⟨a, b, vs, ws, e1, e2, s1, s2, line_le (by rw [i1.len, i2.len]; exact hz), fun p hp => ?_⟩))
      exact q _ _ (new_tup (K := X.K) hp) ⟨p, rfl, hp, _, upd_same, ImmL.ext (Ext.of_same (new_tup (K := X.K) hp)) _ _ (i1.append i2)⟩
    · cases h
def dSub : D → D → Option S
  | .int a, .int b => some (.v (.int (a - b)))
  | _, _ => none
theorem o_sub (A : At g X) : Op2 X (binaryOp .Sub) dSub := by
  refine ⟨_, op_sub, fun x y H Q d e s r1 r2 h q => ?_⟩
  cases d <;> cases e <;> simp only [dSub] at h <;> cases h
  exact ⟨_, _, r1.int, r2.int, q _ H (Same.refl H) rfl⟩
/-- the sizes at which * is served -/
def mulOk (a b : Int) : Prop := a.natAbs < 18446744073709551616 ∨ b.natAbs < 18446744073709551616 ∨ a.natAbs.log2 + b.natAbs.log2 < 1000000
instance (a b : Int) : Decidable (mulOk a b) := by unfold mulOk; infer_instance
def dMul : D → D → Option S
  | .int a, .int b => if mulOk a b then some (.v (.int (a * b))) else none
  | .lst a, .int k => if a.length * k.toNat ≤ 16777216 ∧ -9223372036854775808 ≤ k ∧ k < 9223372036854775808 then some (.o (.lst (List.replicate k.toNat a).flatten)) else none
  | .tup a, .int k => if 0 < a.length ∧ a.length ≤ 1000 ∧ 2 ≤ k ∧ k ≤ 1000 then some (.v (.tup (List.replicate k.toNat a).flatten)) else none
  | _, _ => none
theorem immL_rep {K : PySem.W.Frag} {H : Hp} {ds : List D} {vs : List V} (h : ImmL K H ds vs) : ∀ k : Nat, ImmL K H (List.replicate k ds).flatten (List.replicate k vs).flatten
  | 0 => rfl
  | k + 1 => by
    rw [List.replicate_succ, List.replicate_succ, List.flatten_cons, List.flatten_cons]
    exact h.append (immL_rep h k)
def rRepL : R2 := fun x y H Q => ∃ l k xs, x = .ref l ∧ y = .int k ∧ L2.Rd H l (.lst xs) ∧ -(2 ^ 63) ≤ k ∧ k < 2 ^ 63 ∧ xs.length * k.toNat ≤ sizeLine ∧
  ∀ p, H p = none → Q (.ref p) (upd H p (.lst (List.replicate k.toNat xs).flatten))
end
end PL

namespace PL
open PySem PySem.Spec PyProof.Rows L2
/-! ### dicts -/
def kOf (t : Bool) (d : D) : Option (List Key) := match t with
  | false => (keyD d).map fun k => [k]
  | true => match d with
    | .tup ks => keysD ks
    | _ => none
def gGet (t : Bool) (kvs : List (D × D)) (k : List Key) : Option D := (kvs.find? fun p => decide (kOf t p.1 = some k)).map (·.2)
def gPut (t : Bool) (kvs : List (D × D)) (k : List Key) (kd v : D) : List (D × D) :=
  if (gGet t kvs k).isSome = true then kvs.map (fun p => if kOf t p.1 = some k then (p.1, v) else p) else kvs ++ [(kd, v)]
def ImmO (K : PySem.W.Frag) (H : Hp) : Option D → Option V → Prop
  | none, o => o = none
  | some d, o => ∃ v, o = some v ∧ Imm K H d v
theorem ImmO.some_eq {K : PySem.W.Frag} {H : Hp} : ∀ {d : Option D} {v : Option V}, ImmO K H d v → v.isSome = d.isSome
  | none, _, h => by cases (show _ = _ from h); rfl
  | some d, _, ⟨v, e, _⟩ => by subst e; rfl
section
variable {K : PySem.W.Frag} {H : Hp}
theorem gGet_pos {t : Bool} {p : D × D} {r : List (D × D)} {k : List Key} (e : kOf t p.1 = some k) : gGet t (p :: r) k = some p.2 := by simp [gGet, List.find?_cons, e]
theorem gGet_neg {t : Bool} {p : D × D} {r : List (D × D)} {k : List Key} (e : ¬ kOf t p.1 = some k) : gGet t (p :: r) k = gGet t r k := by simp [gGet, List.find?_cons, e]
theorem kOf_false {d : D} {k : Key} (h : keyD d = some k) : kOf false d = some [k] := by simp [kOf, h]
theorem kOf_false_is {d : D} {ks : List Key} (h : kOf false d = some ks) : ∃ k, keyD d = some k ∧ ks = [k] := by
  unfold kOf at h
  cases e : keyD d with
  | none => rw [e] at h; cases h
  | some k => rw [e] at h; cases h; exact ⟨k, rfl, rfl⟩
theorem kOf_true_is {d : D} {ks : List Key} (h : kOf true d = some ks) : ∃ ds, d = .tup ds ∧ keysD ds = some ks := by
  cases d with
  | tup ds => exact ⟨ds, rfl, h⟩
  | _ => cases h
theorem immK_val : ∀ {kvs : List (D × D)} {kws : List (Key × V)} (k : Key), ImmK K H kvs kws → ImmO K H (gGet false kvs [k]) (valV kws k)
  | [], _, k, h => by cases (show _ = _ from h); exact rfl
  | (kd, d) :: ds, _, k, ⟨kk, v, r, e, h0, h1, h2⟩ => by
    subst e
    by_cases hk : kk = k
    · subst hk
      rw [gGet_pos (kOf_false h0), valV_pos rfl]
      exact ⟨v, rfl, h1⟩
    · rw [gGet_neg (by rw [kOf_false h0]; simpa using hk), valV_neg hk]
      exact immK_val k h2
theorem immK_map {d : D} {v : V} : ∀ {kvs : List (D × D)} {kws : List (Key × V)} (k : Key), ImmK K H kvs kws → Imm K H d v →
    ImmK K H (kvs.map fun p => if kOf false p.1 = some [k] then (p.1, d) else p) (kws.map fun kv => if kv.1 = k then (kv.1, v) else kv)
  | [], _, k, h, im => by cases (show _ = _ from h); exact rfl
  | (kd, d') :: ds, _, k, ⟨kk, v', r, e, h0, h1, h2⟩, im => by
    subst e
    have ih := immK_map k h2 im
    by_cases hk : kk = k
    · subst hk
      rw [List.map_cons, List.map_cons, if_pos (kOf_false h0), if_pos rfl]
      exact ⟨kk, v, _, rfl, h0, im, ih⟩
    · rw [List.map_cons, List.map_cons, if_neg (by rw [kOf_false h0]; simpa using hk), if_neg hk]
      exact ⟨kk, v', _, rfl, h0, h1, ih⟩
theorem immK_snoc {kd d : D} {v : V} {k : Key} (hk : keyD kd = some k) (im : Imm K H d v) : ∀ {kvs : List (D × D)} {kws : List (Key × V)}, ImmK K H kvs kws → ImmK K H (kvs ++ [(kd, d)]) (kws ++ [(k, v)])
  | [], _, h => by cases (show _ = _ from h); exact ⟨k, v, [], rfl, hk, im, rfl⟩
  | (kd', d') :: ds, _, ⟨kk, v', r, e, h0, h1, h2⟩ => by
    subst e
    exact ⟨kk, v', _, rfl, h0, h1, immK_snoc hk im h2⟩
theorem immK_put {kd d : D} {v : V} {k : Key} {kvs : List (D × D)} {kws : List (Key × V)} (hk : keyD kd = some k) (im : Imm K H d v) (h : ImmK K H kvs kws) : ImmK K H (gPut false kvs [k] kd d) (putK kws k v) := by
  unfold gPut putK
  have e := (immK_val k h).some_eq
  rw [valV_any, e]
  split
  · exact immK_map k h im
  · exact immK_snoc hk im h
theorem immK_length : ∀ {ds : List (D × D)} {vs : List (Key × V)}, ImmK K H ds vs → vs.length = ds.length
  | [], _, h => by cases (show _ = _ from h); rfl
  | (_, d) :: ds, _, ⟨_, v, r, e1, _, h1, h2⟩ => by rw [e1, List.length_cons, List.length_cons, immK_length h2]
/-! with tuples as keys -/
theorem immT_key : ∀ {p : D × D} {r : List (D × D)} {kws : List (List Key × V)}, ImmT K H (p :: r) kws → ∃ ks kk v r', p.1 = .tup ks ∧ kws = (kk, v) :: r' ∧ keysD ks = some kk ∧ Imm K H p.2 v ∧ ImmT K H r r'
  | (kd, d), r, kws, h => by
    cases kd with
    | tup ks => obtain ⟨kk, v, r', e, h0, h1, h2⟩ := h; exact ⟨ks, kk, v, r', rfl, e, h0, h1, h2⟩
    | _ => exact h.elim
theorem immT_mk {kd : D} {ks : List D} {kk : List Key} {d : D} {v : V} {r : List (D × D)} {r' : List (List Key × V)} (e : kd = .tup ks) (h0 : keysD ks = some kk) (h1 : Imm K H d v) (h2 : ImmT K H r r') : ImmT K H ((kd, d) :: r) ((kk, v) :: r') := by
  subst e
  exact ⟨kk, v, r', rfl, h0, h1, h2⟩
theorem kOf_true {kd : D} {ds : List D} {k : List Key} (e : kd = .tup ds) (h : keysD ds = some k) : kOf true kd = some k := by subst e; exact h
theorem immT_val : ∀ {kvs : List (D × D)} {kws : List (List Key × V)} (k : List Key), ImmT K H kvs kws → ImmO K H (gGet true kvs k) (valV kws k)
  | [], _, k, h => by cases (show _ = _ from h); exact rfl
  | (kd, d) :: ds, _, k, h => by
    obtain ⟨ks, kk, v, r', e0, e, h0, h1, h2⟩ := immT_key h
    subst e
    by_cases hk : kk = k
    · subst hk
      rw [gGet_pos (kOf_true e0 h0), valV_pos rfl]
      exact ⟨v, rfl, h1⟩
    · rw [gGet_neg (by rw [kOf_true e0 h0]; simpa using hk), valV_neg hk]
      exact immT_val k h2
theorem immT_map {d : D} {v : V} : ∀ {kvs : List (D × D)} {kws : List (List Key × V)} (k : List Key), ImmT K H kvs kws → Imm K H d v →
    ImmT K H (kvs.map fun p => if kOf true p.1 = some k then (p.1, d) else p) (kws.map fun kv => if kv.1 = k then (kv.1, v) else kv)
  | [], _, k, h, im => by cases (show _ = _ from h); exact rfl
  | (kd, d') :: ds, _, k, h, im => by
    obtain ⟨ks, kk, v', r', e0, e, h0, h1, h2⟩ := immT_key h
    subst e
    have ih := immT_map k h2 im
    by_cases hk : kk = k
    · subst hk
      rw [List.map_cons, List.map_cons, if_pos (kOf_true e0 h0), if_pos rfl]
      exact immT_mk e0 h0 im ih
    · rw [List.map_cons, List.map_cons, if_neg (by rw [kOf_true e0 h0]; simpa using hk), if_neg hk]
      exact immT_mk e0 h0 h1 ih
theorem immT_snoc {ks : List D} {d : D} {v : V} {k : List Key} (hk : keysD ks = some k) (im : Imm K H d v) : ∀ {kvs : List (D × D)} {kws : List (List Key × V)}, ImmT K H kvs kws → ImmT K H (kvs ++ [(.tup ks, d)]) (kws ++ [(k, v)])
  | [], _, h => by cases (show _ = _ from h); exact ⟨k, v, [], rfl, hk, im, rfl⟩
  | (kd', d') :: ds, _, h => by
    obtain ⟨ks', kk, v', r', e0, e, h0, h1, h2⟩ := immT_key h
    subst e
    exact immT_mk e0 h0 h1 (immT_snoc hk im h2)
theorem immT_put {ks : List D} {d : D} {v : V} {k : List Key} {kvs : List (D × D)} {kws : List (List Key × V)} (hk : keysD ks = some k) (im : Imm K H d v) (h : ImmT K H kvs kws) : ImmT K H (gPut true kvs k (.tup ks) d) (putK kws k v) := by
  unfold gPut putK
  have e := (immT_val k h).some_eq
  rw [valV_any, e]
  split
  · exact immT_map k h im
  · exact immT_snoc hk im h
theorem immT_length : ∀ {ds : List (D × D)} {vs : List (List Key × V)}, ImmT K H ds vs → vs.length = ds.length
  | [], _, h => by cases (show _ = _ from h); rfl
  | (kd, d) :: ds, _, h => by
    obtain ⟨ks', kk, v', r', e0, e, h0, h1, h2⟩ := immT_key h
    rw [e, List.length_cons, List.length_cons, immT_length h2]
/-! ### the kit's readings and writings -/
theorem rd_key {kd : D} {y : V} {k : Key} (r : Rd K H kd y) (h : keyD kd = some k) : y = kV k := by
  cases kd <;> cases h
  · exact r.int
  · exact r.str
theorem immL_key : ∀ {ks : List D} {k : List Key} {vs : List V}, ImmL K H ks vs → keysD ks = some k → vs = k.map kV
  | [], k, vs, im, h => by cases h; exact im
  | d :: ds, k, vs, ⟨v, r, e, h1, h2⟩, h => by
    unfold keysD at h
    cases h3 : keyD d with
    | none => rw [h3] at h; cases h
    | some kk =>
      rw [h3] at h
      cases h4 : keysD ds with
      | none => rw [h4] at h; cases h
      | some ks' =>
        rw [h4] at h
        cases h
        rw [e, List.map_cons, rd_key (.inl h1) h3, immL_key h2 h4]
theorem dget_of {t : Bool} {kvs : List (D × D)} {x y : V} {kd : D} {k : List Key} (r1 : Rd K H (.dic t kvs) x) (r2 : Rd K H kd y) (h : kOf t kd = some k) : ∃ a o, x = .ref a ∧ DGet H a y o ∧ ImmO K H (gGet t kvs k) o := by
  cases t with
  | false =>
    obtain ⟨a, kws, e, h1, h2⟩ := r1.dicK
    obtain ⟨kk, h3, rfl⟩ := kOf_false_is h
    exact ⟨a, _, e, .inl ⟨kws, kk, h1, rd_key r2 h3, rfl⟩, immK_val kk h2⟩
  | true =>
    obtain ⟨a, kws, e, h1, h2⟩ := r1.dicT
    obtain ⟨ds, rfl, h3⟩ := kOf_true_is h
    obtain ⟨b, vs, e2, h4, h5⟩ := r2.tup
    refine ⟨a, _, e, .inr ⟨kws, k, b, h1, e2, ?_, rfl⟩, immT_val k h2⟩
    rw [← immL_key h5 h3]
    exact h4
theorem mut_ext {H H' : Hp} {a : Addr} {u : HO} (hu : H a = some u) (mu : Mut (some u)) (e : ∀ b, b ≠ a → H' b = H b) : Ext H H' := fun b ob hb => by
  by_cases hba : b = a
  · subst hba
    rw [hu] at hb; cases hb
    exact ⟨fun xs e => by subst e; exact mu.elim, fun _ _ e => by subst e; exact mu.elim⟩
  · exact ⟨fun _ _ => by rw [e b hba]; exact hb, fun _ _ _ => by rw [e b hba]; exact hb⟩
theorem dput_of {t : Bool} {kvs : List (D × D)} {a : Addr} {y v : V} {kd d : D} {k : List Key} (o : OwnAt K H a (.dic t kvs)) (r2 : Rd K H kd y) (h : kOf t kd = some k) (im : Imm K H d v) (hl : kvs.length < 16777216) :
    ∃ H', DPut H a y v H' ∧ Ext H H' ∧ (∀ b, b ≠ a → H' b = H b) ∧ OwnAt K H' a (.dic t (gPut t kvs k kd d)) := by
  cases t with
  | false =>
    obtain ⟨kws, h1, h2⟩ := o
    obtain ⟨kk, h3, rfl⟩ := kOf_false_is h
    have x : Ext H (upd H a (.dK (putK kws kk v))) := mut_ext h1 True.intro fun b hb => upd_ne hb
    refine ⟨_, .inl ⟨kws, kk, h1, rd_key r2 h3, ?_, rfl⟩, x, fun b hb => upd_ne hb, _, upd_same, ImmK.ext x _ _ (immK_put h3 im h2)⟩
    rw [immK_length h2, sizeLine_eq]; exact hl
  | true =>
    obtain ⟨kws, h1, h2⟩ := o
    obtain ⟨ds, rfl, h3⟩ := kOf_true_is h
    obtain ⟨b, vs, e2, h4, h5⟩ := r2.tup
    have x : Ext H (upd H a (.dT (putK kws k v))) := mut_ext h1 True.intro fun b hb => upd_ne hb
    refine ⟨_, .inr ⟨kws, k, b, h1, e2, ?_, ?_, rfl⟩, x, fun b hb => upd_ne hb, _, upd_same, ImmT.ext x _ _ (immT_put h3 im h2)⟩
    · rw [← immL_key h5 h3]; exact h4
    · rw [immT_length h2, sizeLine_eq]; exact hl
theorem isD_of {t : Bool} {kvs : List (D × D)} {x : V} (r1 : Rd K H (.dic t kvs) x) : ∃ a, x = .ref a ∧ IsD H a := by
  cases t with
  | false => obtain ⟨a, kws, e, h1, h2⟩ := r1.dicK; exact ⟨a, e, .inl ⟨kws, h1⟩⟩
  | true => obtain ⟨a, kws, e, h1, h2⟩ := r1.dicT; exact ⟨a, e, .inr ⟨kws, h1⟩⟩
end
end PL

namespace PL
open PySem PySem.Spec PyProof.Rows L2
section
variable {g : Cf} {X : Cx}
theorem op_repL : OpR X (binaryOp .Mult) rRepL := by
  intro pins s σ H x y v u Q I rx ry h
  obtain ⟨l, k, xs, rfl, rfl, hH, h1, h2, hz, q⟩ := h
  cases rx
  obtain ⟨t, rfl⟩ := ry
  obtain ⟨z, its, n, r, hl, e⟩ := lstR I hH
  have hlen : its.toArray.size * k.toNat ≤ sizeLine := by rw [List.size_toArray, ← hl]; exact hz
  have hcap : ¬ its.toArray.size * k.toNat > (2 ^ 63 - 1) / 8 := by
    have : (sizeLine : Nat) ≤ (2 ^ 63 - 1) / 8 := by decide
    omega
  have hfit : ¬ (!Builtin.List.listFitsIndex k) = true := by
    rw [fitsIndex_both h1 h2]
    exact Bool.false_ne_true
  have hlong : ¬ Builtin.List.listTooLong (its.toArray.size * k.toNat) = true := by
    rw [notLongL hlen]
    exact Bool.false_ne_true
  have hnew : List.foldl (fun x1 x2 => x1 ++ x2) #[] (List.replicate (if its.toArray.isEmpty = true then 0 else k.toNat) its.toArray) = (List.replicate k.toNat its).flatten.toArray := by
    have f0 : ∀ m : Nat, List.foldl (fun x1 x2 => x1 ++ x2) #[] (List.replicate m its.toArray) = (List.replicate m its).flatten.toArray := fun m => by
      have := foldl_rep its m []
      rw [List.nil_append] at this
      exact this
    rw [f0]
    cases its with
    | nil => simp
    | cons a r' => rw [if_neg (by simp)]
  refine wpAny_binaryOp_repeat_ref (T := "list") (U := "int") (by decide) ⟨_, e, rfl⟩ (fun s' => typeIs_int s' k t) noFill_list_mul F.fills_int_mul F.slot_int_rmul repeat_list F.slot_int_index.lookup
    (call_meets F.slot_int_rmul (typeIs_int s k t) F.entry_int_rmul (F.args_int_rmul_2 _ _) (int___rmul___int_list k t l its.toArray n)
      ⟨e, rfl, ⟨_, e, rfl⟩, call_meets F.slot_list_mul ⟨_, e, rfl⟩ F.entry_list_mul (F.args_list_mul_2 _ _) (AutoListH.list___mul___list_int_3 l its.toArray n k t hfit hcap hlong) ⟨e, ?_⟩⟩)
  rw [hnew]
  exact ⟨.ref _, _, I.lnew (t' := s.toks) (r.rep k.toNat) (by rw [PyProof.Rows.lm_len_rep_flat, Nat.mul_comm]; exact hz), rfl, q _ I.fresh⟩
theorem mulOk.cm {i j : Int} (h : mulOk i j) : CMul i j ∨ CMulW i j := by
  rcases h with h | h | h
  · exact .inl (.inl ⟨by omega, by omega⟩)
  · exact .inl (.inr ⟨by omega, by omega⟩)
  · exact .inr h
theorem o_mul (A : At g X) : Op2 X (binaryOp .Mult) dMul := by
  refine ⟨_, OpR.or op_mul (OpR.or op_mulW (OpR.or op_repL op_repT)), fun x y H Q d e s r1 r2 h q => ?_⟩
  cases d <;> cases e <;> simp only [dMul] at h <;> try (cases h; done)
  · split at h
    · rename_i hz
      cases h
      rcases hz.cm with hc | hc
      · exact .inl ⟨_, _, r1.int, r2.int, hc, q _ H (Same.refl H) rfl⟩
      · exact .inr (.inl ⟨_, _, r1.int, r2.int, hc, q _ H (Same.refl H) rfl⟩)
    · cases h
  · split at h
    · rename_i hz
      cases h
      obtain ⟨a, vs, e1, s1, i1⟩ := r1.tup
      refine .inr (.inr (.inr ⟨a, _, vs, e1, r2.int, s1.seq, fun e => ?_, hz.2.2.1, hz.2.2.2, by rw [i1.len]; exact hz.2.1, fun p hp => ?_⟩))
      · have := i1.none_iff.mp e
        subst this
        exact absurd hz.1 (by simp)
      · exact q _ _ (new_tup (K := X.K) hp) ⟨p, _, rfl, TpT.of upd_same, ImmL.ext (Ext.of_same (new_tup (K := X.K) hp)) _ _ (immL_rep i1 _)⟩
    · cases h
  · split at h
    · rename_i hz
      cases h
      obtain ⟨a, vs, e1, s1, i1⟩ := r1.lstR
      refine .inr (.inr (.inl ⟨a, _, vs, e1, r2.int, s1, hz.2.1, hz.2.2, line_le (by rw [i1.len]; exact hz.1), fun p hp => ?_⟩))
      exact q _ _ (new_tup (K := X.K) hp) ⟨p, rfl, hp, _, upd_same, ImmL.ext (Ext.of_same (new_tup (K := X.K) hp)) _ _ (immL_rep i1 _)⟩
    · cases h
def dDiv : D → D → Option S
  | .int a, .int b => if 0 < b ∧ b.natAbs.log2 < 9000 then some (.v (.int (a / b))) else if b ≠ 0 ∧ b.natAbs < 1073741824 then some (.v (.int (a.fdiv b))) else none
  | _, _ => none
theorem o_div (A : At g X) : Op2 X (binaryOp .FloorDiv) dDiv := by
  refine ⟨_, OpR.or op_fdivW op_fdivN, fun x y H Q d e s r1 r2 h q => ?_⟩
  cases d <;> cases e <;> simp only [dDiv] at h <;> try (cases h; done)
  split at h
  · rename_i hz
    cases h
    exact .inl ⟨_, _, r1.int, r2.int, hz, q _ H (Same.refl H) rfl⟩
  · split at h
    · rename_i hz
      cases h
      exact .inr ⟨_, _, r1.int, r2.int, hz, q _ H (Same.refl H) rfl⟩
    · cases h
def dMod : D → D → Option S
  | .int a, .int b => if 0 < b then some (.v (.int (a % b))) else if b ≠ 0 then some (.v (.int (a.fmod b))) else none
  | _, _ => none
theorem o_mod (A : At g X) : Op2 X (binaryOp .Mod) dMod := by
  refine ⟨_, OpR.or op_mod op_modN, fun x y H Q d e s r1 r2 h q => ?_⟩
  cases d <;> cases e <;> simp only [dMod] at h <;> try (cases h; done)
  split at h
  · rename_i hz
    cases h
    exact .inl ⟨_, _, r1.int, r2.int, hz, q _ H (Same.refl H) rfl⟩
  · split at h
    · rename_i hz
      cases h
      exact .inr ⟨_, _, r1.int, r2.int, hz, q _ H (Same.refl H) rfl⟩
    · cases h
def dPow : D → D → Option S
  | .int a, .int b => if 0 ≤ b ∧ b ≤ 1000000 ∧ a.natAbs < 18446744073709551616 then some (.v (.int (a ^ b.toNat))) else none
  | _, _ => none
theorem o_pow (A : At g X) : Op2 X (binaryOp .Pow) dPow := by
  refine ⟨_, op_pow, fun x y H Q d e s r1 r2 h q => ?_⟩
  cases d <;> cases e <;> simp only [dPow] at h <;> try (cases h; done)
  split at h
  · rename_i hz
    cases h
    exact ⟨_, _, r1.int, r2.int, hz, q _ H (Same.refl H) rfl⟩
  · cases h
def dShl : D → D → Option S
  | .int a, .int b => if 0 ≤ b ∧ b ≤ 1000000 ∧ a.natAbs < 18446744073709551616 then some (.v (.int (a * 2 ^ b.toNat))) else none
  | _, _ => none
theorem o_shl (A : At g X) : Op2 X (binaryOp .LShift) dShl := by
  refine ⟨_, op_shl, fun x y H Q d e s r1 r2 h q => ?_⟩
  cases d <;> cases e <;> simp only [dShl] at h <;> try (cases h; done)
  split at h
  · rename_i hz
    cases h
    exact ⟨_, _, r1.int, r2.int, hz, q _ H (Same.refl H) rfl⟩
  · cases h
def dShr : D → D → Option S
  | .int a, .int b => if 0 ≤ b then some (.v (.int (a / 2 ^ b.toNat))) else none
  | _, _ => none
theorem o_shr (A : At g X) : Op2 X (binaryOp .RShift) dShr := by
  refine ⟨_, op_shr, fun x y H Q d e s r1 r2 h q => ?_⟩
  cases d <;> cases e <;> simp only [dShr] at h <;> try (cases h; done)
  split at h
  · rename_i hz
    cases h
    exact ⟨_, _, r1.int, r2.int, hz, q _ H (Same.refl H) rfl⟩
  · cases h
def dBand : D → D → Option S
  | .int a, .int b => some (.v (.int (Builtin.bitAnd a b)))
  | _, _ => none
theorem o_band (A : At g X) : Op2 X (binaryOp .BitAnd) dBand := by
  refine ⟨_, op_and, fun x y H Q d e s r1 r2 h q => ?_⟩
  cases d <;> cases e <;> simp only [dBand] at h <;> cases h
  exact ⟨_, _, r1.int, r2.int, q _ H (Same.refl H) rfl⟩
def dBor : D → D → Option S
  | .int a, .int b => some (.v (.int (Builtin.bitOr a b)))
  | _, _ => none
theorem o_bor (A : At g X) : Op2 X (binaryOp .BitOr) dBor := by
  refine ⟨_, op_or, fun x y H Q d e s r1 r2 h q => ?_⟩
  cases d <;> cases e <;> simp only [dBor] at h <;> cases h
  exact ⟨_, _, r1.int, r2.int, q _ H (Same.refl H) rfl⟩
def dBxor : D → D → Option S
  | .int a, .int b => some (.v (.int (Builtin.bitXor a b)))
  | _, _ => none
theorem o_bxor (A : At g X) : Op2 X (binaryOp .BitXor) dBxor := by
  refine ⟨_, op_xor, fun x y H Q d e s r1 r2 h q => ?_⟩
  cases d <;> cases e <;> simp only [dBxor] at h <;> cases h
  exact ⟨_, _, r1.int, r2.int, q _ H (Same.refl H) rfl⟩
def dNeg : D → Option S
  | .int a => some (.v (.int (-a)))
  | _ => none
theorem o_neg (A : At g X) : ∃ r, UnR X (unaryOp .USub) r ∧ Un1 X r dNeg := by
  refine ⟨_, un_neg, fun x H Q d s r1 h q => ?_⟩
  cases d <;> simp only [dNeg] at h <;> cases h
  exact ⟨_, r1.int, q _ H (Same.refl H) rfl⟩
/-! ### in -/
def keyOf : D → Option (Sum Key (List Key))
  | .int i => some (.inl (.inl i))
  | .str x => some (.inl (.inr x))
  | .tup ds => (keysD ds).map .inr
  | _ => none
/-- the value at a key -/
def dicGet (kvs : List (D × D)) (k : D) : Option D := (kvs.find? fun kv => eqD kv.1 k).map (·.2)
def strIn (a b : Str) : Bool := !(Builtin.Str.occurrences b a 0 b.length 1).isEmpty
def inL (d : D) (es : List D) : Option Bool := if shp d = true ∧ PyData.canLayAll0 (toPyL es) = true then some (es.any fun e => eqD e d) else none
def dIn : D → D → Option Bool
  | .str a, .str b => some (strIn a b)
  | d, .tup es => inL d es
  | d, .lst es => inL d es
  | d, .ktp es => inL d es
  | d, .dic t kvs => (kOf t d).map fun k => (gGet t kvs k).isSome
  | _, _ => none
def dNotIn (d e : D) : Option Bool := (dIn d e).map (!·)
theorem any_toPyL (d : D) : ∀ es : List D, ((toPyL es).any fun y => PyData.eqv y (toPy d)) = es.any fun e => eqD e d
  | [] => rfl
  | e :: es => by
    show (PyData.eqv (toPy e) (toPy d) || (toPyL es).any fun y => PyData.eqv y (toPy d)) = _
    rw [any_toPyL d es]; rfl
def rInS (K : PySem.W.Frag) (neg : Bool) : R2 := fun x y H Q => ∃ d ds, Dp K H x d ∧ (Dp K H y (.list ds) ∨ Dp K H y (.tuple ds)) ∧ SeqAt.shaped d = true ∧ PyData.canLayAll0 ds = true ∧ Q (.bl (if neg then !(ds.any fun z => PyData.eqv z d) else ds.any fun z => PyData.eqv z d)) H
theorem room_in {d : PyData} {ds : List PyData} (h : SeqAt.shaped d = true) (A : At g X) : X.A.units + 1 + min (PyData.depthAll ds) d.depth < cLine := by
  have h1 := SeqAt.depth_of_shaped h
  have h2 := Nat.min_le_right (PyData.depthAll ds) d.depth
  have h3 := A.room.un
  omega
theorem op_inS (A : At g X) : OpR X (compareOp .In) (rInS X.K false) := by
  intro pins s σ H x y v u Q I rx ry h
  obtain ⟨d, ds, hd, he, sd, se, q⟩ := h
  obtain ⟨as, r1⟩ := Dp.reads I d x v hd rx
  rcases he with he | he
  · obtain ⟨bs, r2⟩ := Dp.reads I (.list ds) y u he ry
    exact SeqAt.in_list_reads r2 r1 se (SeqAt.canLay_of_shaped sd) (room_in sd A) ⟨.bl _, H, I, rfl, q⟩
  · obtain ⟨bs, r2⟩ := Dp.reads I (.tuple ds) y u he ry
    exact SeqAt.in_tuple_reads r2 r1 se (SeqAt.canLay_of_shaped sd) (room_in sd A) ⟨.bl _, H, I, rfl, q⟩
theorem op_notInS (A : At g X) : OpR X (compareOp .NotIn) (rInS X.K true) := by
  intro pins s σ H x y v u Q I rx ry h
  obtain ⟨d, ds, hd, he, sd, se, q⟩ := h
  obtain ⟨as, r1⟩ := Dp.reads I d x v hd rx
  rcases he with he | he
  · obtain ⟨bs, r2⟩ := Dp.reads I (.list ds) y u he ry
    exact SeqAt.notIn_list_reads r2 r1 se (SeqAt.canLay_of_shaped sd) (room_in sd A) ⟨.bl _, H, I, rfl, q⟩
  · obtain ⟨bs, r2⟩ := Dp.reads I (.tuple ds) y u he ry
    exact SeqAt.notIn_tuple_reads r2 r1 se (SeqAt.canLay_of_shaped sd) (room_in sd A) ⟨.bl _, H, I, rfl, q⟩
def rInDc : R2 := fun y x H Q => ∃ a o, x = .ref a ∧ DGet H a y o ∧ Q (.bl o.isSome) H
def rNotInDc : R2 := fun y x H Q => ∃ a o, x = .ref a ∧ DGet H a y o ∧ Q (.bl (!o.isSome)) H
theorem op_inDc (A : At g X) : OpR X (compareOp .In) rInDc := by
  intro pins s σ H y x u v Q I ry rx h
  obtain ⟨a, o, ex, g1, q⟩ := h
  subst ex
  obtain rfl : v = Value.ref a := rx
  exact d_in (by have := A.room.un; omega) I g1 ry fun s3 I3 => ⟨.bl o.isSome, H, I3, rfl, q⟩
theorem op_notInDc (A : At g X) : OpR X (compareOp .NotIn) rNotInDc := by
  intro pins s σ H y x u v Q I ry rx h
  obtain ⟨a, o, ex, g1, q⟩ := h
  subst ex
  obtain rfl : v = Value.ref a := rx
  exact d_notIn (by have := A.room.un; omega) I g1 ry fun s3 I3 => ⟨.bl (!o.isSome), H, I3, rfl, q⟩
theorem inDc_of {K : PySem.W.Frag} {H : Hp} {d : D} {t : Bool} {kvs : List (D × D)} {x y : V} {k : Bool} (r1 : Rd K H d x) (r2 : Rd K H (.dic t kvs) y) (h : ((kOf t d).map fun k => (gGet t kvs k).isSome) = some k) :
    ∃ a o, y = .ref a ∧ DGet H a x o ∧ o.isSome = k := by
  cases e : kOf t d with
  | none => rw [e] at h; cases h
  | some kk =>
    rw [e] at h
    cases h
    obtain ⟨a, o, h1, h2, h3⟩ := dget_of r2 r1 e
    exact ⟨a, o, h1, h2, h3.some_eq⟩
theorem inS_of {K : PySem.W.Frag} {H : Hp} {d e : D} {x y : V} {es : List D} {k : Bool} (he : e = .tup es ∨ e = .lst es ∨ e = .ktp es) (r1 : Rd K H d x) (r2 : Rd K H e y) (h : inL d es = some k) :
    ∃ dd ds, Dp K H x dd ∧ (Dp K H y (.list ds) ∨ Dp K H y (.tuple ds)) ∧ SeqAt.shaped dd = true ∧ PyData.canLayAll0 ds = true ∧ (ds.any fun z => PyData.eqv z dd) = k := by
  unfold inL at h
  split at h
  · rename_i hz
    cases h
    refine ⟨toPy d, toPyL es, dp_rd r1 (lay_of_shp hz.1), ?_, hz.1, hz.2, any_toPyL d es⟩
    rcases he with rfl | rfl | rfl
    · exact .inr (dp_rd r2 (by simpa [toPy, PyData.canLay0] using hz.2))
    · exact .inl (dp_rd r2 (by simpa [toPy, PyData.canLay0] using hz.2))
    · exact .inr (dp_rd r2 (by simpa [toPy, PyData.canLay0] using hz.2))
  · cases h
def rInD2 (neg : Bool) : R2 := fun y x H Q => ∃ a o, x = .ref a ∧ DGet H a y o ∧ Q (.bl (if neg then !o.isSome else o.isSome)) H
theorem op_inDic (A : At g X) : OpR X (compareOp .In) (rInD2 false) := by
  intro pins s σ H y x iv u Q I ry rx h
  obtain ⟨a, o, ex, hg, q⟩ := h
  subst ex
  obtain rfl : u = Value.ref a := rx
  exact d_in (by have := A.room.un; omega) I hg ry fun s3 I3 => ⟨.bl o.isSome, H, I3, rfl, q⟩
theorem op_notInDic (A : At g X) : OpR X (compareOp .NotIn) (rInD2 true) := by
  intro pins s σ H y x iv u Q I ry rx h
  obtain ⟨a, o, ex, hg, q⟩ := h
  subst ex
  obtain rfl : u = Value.ref a := rx
  exact d_notIn (by have := A.room.un; omega) I hg ry fun s3 I3 => ⟨.bl (!o.isSome), H, I3, rfl, q⟩
theorem o_in (A : At g X) : OpB X (compareOp .In) dIn := by
  refine ⟨_, OpR.or op_in_str (OpR.or (op_inS A) (op_inDc A)), fun x y H Q d e k r1 r2 h q => ?_⟩
  have key : ∀ es, (e = .tup es ∨ e = .lst es ∨ e = .ktp es) → inL d es = some k → rInS X.K false x y H Q := fun es he hk => by
    obtain ⟨dd, ds, h1, h2, h3, h4, h5⟩ := inS_of he r1 r2 hk
    exact ⟨dd, ds, h1, h2, h3, h4, by rw [h5]; exact q⟩
  cases e with
  | tup es => exact .inr (.inl (key es (.inl rfl) (by cases d <;> exact h)))
  | lst es => exact .inr (.inl (key es (.inr (.inl rfl)) (by cases d <;> exact h)))
  | ktp es => exact .inr (.inl (key es (.inr (.inr rfl)) (by cases d <;> exact h)))
  | dic t kvs =>
    obtain ⟨a, o, h1, h2, h3⟩ := inDc_of r1 r2 (k := k) (by cases d <;> exact h)
    exact .inr (.inr ⟨a, o, h1, h2, by rw [h3]; exact q⟩)
  | str b =>
    cases d with
    | str a => cases h; exact .inl ⟨_, _, r1.str, r2.str, q⟩
    | _ => cases h
  | _ => cases d <;> cases h
theorem o_notin (A : At g X) : OpB X (compareOp .NotIn) dNotIn := by
  refine ⟨_, OpR.or op_notin_str (OpR.or (op_notInS A) (op_notInDc A)), fun x y H Q d e k r1 r2 h q => ?_⟩
  unfold dNotIn at h
  have key : ∀ es, (e = .tup es ∨ e = .lst es ∨ e = .ktp es) → (inL d es).map (!·) = some k → rInS X.K true x y H Q := fun es he hk => by
    cases hi : inL d es with
    | none => rw [hi] at hk; cases hk
    | some k' =>
      rw [hi] at hk
      cases hk
      obtain ⟨dd, ds, h1, h2, h3, h4, h5⟩ := inS_of he r1 r2 hi
      exact ⟨dd, ds, h1, h2, h3, h4, by rw [h5]; exact q⟩
  cases e with
  | tup es => exact .inr (.inl (key es (.inl rfl) (by cases d <;> exact h)))
  | lst es => exact .inr (.inl (key es (.inr (.inl rfl)) (by cases d <;> exact h)))
  | ktp es => exact .inr (.inl (key es (.inr (.inr rfl)) (by cases d <;> exact h)))
  | dic t kvs =>
    cases hi : (kOf t d).map fun k => (gGet t kvs k).isSome with
    | none => exfalso; cases d <;> (simp only [dIn] at h; rw [hi] at h; cases h)
    | some k' =>
      obtain ⟨a, o, h1, h2, h3⟩ := inDc_of r1 r2 hi
      have e : k = !k' := by cases d <;> (simp only [dIn] at h; rw [hi] at h; cases h; rfl)
      exact .inr (.inr ⟨a, o, h1, h2, by rw [h3, ← e]; exact q⟩)
  | str b =>
    cases d with
    | str a => cases h; exact .inl ⟨_, _, r1.str, r2.str, q⟩
    | _ => cases h
  | _ => cases d <;> cases h
end
end PL

namespace PL
open PySem PySem.Spec PyProof.Rows L2
/-! ### subscripts -/
theorem immL_atI {K : PySem.W.Frag} {H : Hp} {ds : List D} {vs : List V} {i : Int} {d : D} (h : ImmL K H ds vs) (e : atI ds i = some d) : ∃ v, atI vs i = some v ∧ Imm K H d v := by
  unfold atI at e ⊢
  rw [h.len]
  cases hi : ixN ds.length i with
  | none => rw [hi] at e; cases e
  | some j =>
    rw [hi] at e
    exact h.get' e
def dIxS : D → D → Option S
  | .tup ds, .int i => (atI ds i).map .v
  | .lst ds, .int i => (atI ds i).map .v
  | .scr ns, .int i => (atI ns i).map fun n => .v (.int n)
  | .ktp ds, .int i => (atI ds i).map .v
  | .str z, .int i => if z.length ≤ 16777216 then (atI z.cps.toList i).map fun c => .v (.str ⟨#[c]⟩) else none
  | _, _ => none
def dIx : D → D → Option S
  | .dic t kvs, d => (kOf t d).bind fun k => (gGet t kvs k).map .v
  | d1, d2 => dIxS d1 d2
theorem atI_map {α β : Type} (f : α → β) (xs : List α) (i : Int) : atI (xs.map f) i = (atI xs i).map f := by
  unfold atI
  rw [List.length_map]
  cases ixN xs.length i with
  | none => rfl
  | some j => simp
def rIxDc : R2 := fun x y H Q => ∃ a v, x = .ref a ∧ DGet H a y (some v) ∧ Q v H
theorem ix_dc {X : Cx} (hu : X.A.units + 1 < cLine) : IxR X rIxDc := by
  intro value slice pins s σ H x y v u Q I rx ry h hs
  obtain ⟨a, z, ex, g1, q⟩ := h
  subst ex
  obtain rfl : v = Value.ref a := rx
  have hT := dict_typeIs I g1
  have h2 := d_getItem hu I g1 ry (Q := EP X pins σ Q) (E := X.xe) fun w' s3 I3 rw' => ⟨z, H, I3, rw', q⟩
  unfold subscriptTail
  refine wpAny_bind ?_
  rw [getitemInPython_of_ne hT.not_modules]
  refine wpAny_bind (wpAny_specialOf hT PySem.F.slot_dict_getitem.lookup ?_)
  have fin : wpAny (model X.prog X.w) X.A (subscripted slice false (.ref a) u) (fun r s₃ => wpAny (model X.prog X.w) X.A (letTemporaryGo value (.ref a) r >>= fun _ => pure r) (EP X pins σ Q) X.xe s₃) X.xe s := by
    rw [hs]
    exact wpAny_operating (wpAny_mono h2 (fun r s₃ h₃ => wpAny_bind (wpAny_letTemporaryGo (wpAny_pure h₃))) fun _ _ x => x)
  first
    | exact wpAny_pure (wpAny_bind fin)
    | exact wpAny_bind (wpAny_pure (wpAny_bind fin))
    | exact wpAny_bind fin
def rIxA (K : PySem.W.Frag) : R2 := fun x y H Q => rIx K x y H Q ∨ rIxDc x y H Q
section
variable {g : Cf} {X : Cx} {e a b c : Expr} {es : List Expr} {pos : Pos}
theorem read_ix {x y : V} {H : Hp} {Q : VK} {d1 d2 : D} {s : S} (r1 : Rd X.K H d1 x) (r2 : Rd X.K H d2 y) (h : dIxS d1 d2 = some s) (q : ∀ z H', Same H H' → RS X.K H H' s z → Q z H') : rIx X.K x y H Q := by
  cases d1 <;> cases d2 <;> simp only [dIxS] at h <;> try (cases h; done)
  · split at h
    · rename_i z i hz
      cases he : atI z.cps.toList i with
      | none => rw [he] at h; cases h
      | some c =>
        rw [he] at h
        cases h
        exact .inr (.inr ⟨z, i, c, r1.str, r2.int, line_le hz, he, q _ H (Same.refl H) rfl⟩)
    · cases h
  · rename_i ds i
    obtain ⟨a, vs, e1, s1, i1⟩ := r1.tup
    cases he : atI ds i with
    | none => rw [he] at h; cases h
    | some d =>
      rw [he] at h
      cases h
      obtain ⟨v, hv, im⟩ := immL_atI i1 he
      exact .inr (.inl ⟨a, vs, i, v, e1, r2.int, s1.seq, hv, q _ H (Same.refl H) im⟩)
  · rename_i ds i
    obtain ⟨a, vs, e1, s1, i1⟩ := r1.lst
    cases he : atI ds i with
    | none => rw [he] at h; cases h
    | some d =>
      rw [he] at h
      cases h
      obtain ⟨v, hv, im⟩ := immL_atI i1 he
      exact .inl ⟨a, vs, i, v, e1, r2.int, s1, hv, q _ H (Same.refl H) im⟩
  · rename_i ns i
    obtain ⟨a, e1, s1⟩ := r1.scr
    cases he : atI ns i with
    | none => rw [he] at h; cases h
    | some d =>
      rw [he] at h
      cases h
      exact .inl ⟨a, _, i, .int d, e1, r2.int, s1, by rw [atI_map, he]; rfl, q _ H (Same.refl H) rfl⟩
  · rename_i ds i
    obtain ⟨a, vs, e1, s1, i1⟩ := r1.ktp
    cases he : atI ds i with
    | none => rw [he] at h; cases h
    | some d =>
      rw [he] at h
      cases h
      obtain ⟨v, hv, im⟩ := immL_atI i1 he
      exact .inr (.inl ⟨a, vs, i, v, e1, r2.int, s1.seq, hv, q _ H (Same.refl H) im⟩)
theorem read_ixA {x y : V} {H : Hp} {Q : VK} {d1 d2 : D} {s : S} (r1 : Rd X.K H d1 x) (r2 : Rd X.K H d2 y) (h : dIx d1 d2 = some s) (q : ∀ z H', Same H H' → RS X.K H H' s z → Q z H') : rIxA X.K x y H Q := by
  unfold dIx at h
  split at h
  · rename_i t kvs
    cases e : kOf t d2 with
    | none => rw [e] at h; cases h
    | some k =>
      rw [e] at h
      obtain ⟨a, o, h1, h2, h3⟩ := dget_of r1 r2 e
      cases e2 : gGet t kvs k with
      | none => rw [Option.bind_some, e2] at h; cases h
      | some d =>
        rw [Option.bind_some, e2] at h
        rw [e2] at h3
        obtain ⟨v, rfl, im⟩ := h3
        cases h
        exact .inr ⟨a, v, h1, h2, q v H (Same.refl H) im⟩
  · exact .inl (read_ix r1 r2 h q)
theorem e_ix {fa fb : Ex} (ha : EOk g a fa) (hb : EOk g b fb) (hs : PlainIx b := by intro _ _; rfl) : EOk g (.Subscript a b pos) (e2 dIx fa fb) := fun X W A tk =>
  PE.imp (pe_ix (IxR.or ix_seq (ix_dc (by have := A.room.un; omega))) (ha.n A tk) (hb.n A tk) hs) fun σ H Q t => read2 (r := rIxA X.K) (fun x y H Q d1 d2 s r1 r2 h q => read_ixA r1 r2 h q) t
/-! ### slices -/
def cutG {α : Type} (xs : List α) (lo hi : Option Int) : List α := (xs.drop (HT.sIx xs.length 0 lo)).take (HT.sIx xs.length xs.length hi - HT.sIx xs.length 0 lo)
theorem immL_cut {K : PySem.W.Frag} {H : Hp} {ds : List D} {vs : List V} (h : ImmL K H ds vs) (lo hi : Option Int) : ImmL K H (cutG ds lo hi) (cutV vs lo hi) := by
  unfold cutG cutV
  rw [h.len]
  exact (h.drop _).take _
theorem cut_whole {α : Type} (xs : List α) (lo hi : Option Int) (h : HT.sIx xs.length 0 lo = 0 ∧ HT.sIx xs.length xs.length hi = xs.length) : cutG xs lo hi = xs := by
  unfold cutG
  rw [h.1, h.2]
  simp
theorem cutV_map {α : Type} (f : α → V) (xs : List α) (lo hi : Option Int) : cutV (xs.map f) lo hi = (cutG xs lo hi).map f := by
  unfold cutG cutV
  rw [List.length_map, List.map_take, List.map_drop]
def dSl : D → Option Int → Option Int → Option S
  | .tup ds, lo, hi => some (.v (.tup (cutG ds lo hi)))
  | .lst ds, lo, hi => some (.o (.lst (cutG ds lo hi)))
  | .scr ns, lo, hi => some (.o (.lst ((cutG ns lo hi).map .int)))
  | .str z, lo, hi => if z.length ≤ 16777216 then some (.v (.str (cutS z lo hi))) else none
  | _, _, _ => none
theorem immL_map_int {K : PySem.W.Frag} {H : Hp} : ∀ ns : List Int, ImmL K H (ns.map .int) (ns.map V.int)
  | [] => rfl
  | n :: ns => ⟨_, _, rfl, rfl, immL_map_int ns⟩
abbrev Px := Rho → Out (Option Int × Rho)
def tP (K : PySem.W.Frag) (g : Cf) (f : Px) (W : WX) : L2.TO := fun σ H Q => ∃ ρ, ER K g ρ σ H ∧ Pst K g σ H W (fun p H' => ER K g p.2 σ H' → Q p.1 H') (f ρ)
def POk (g : Cf) (e : Option Expr) (f : Px) : Prop := ∀ (X : Cx) (W : WX), At g X → Takes X W → L2.PO X e (tP X.K g f W)
theorem PO.imp {X : Cx} {e : Option Expr} {t t' : L2.TO} (h : L2.PO X e t) (hi : ∀ σ H Q, t' σ H Q → t σ H Q) : L2.PO X e t' := ⟨fun pins s σ H Q I q => h.run pins s σ H Q I (hi σ H Q q)⟩
def pNo : Px := fun ρ => .ok (none, ρ)
def dInt : D → Option Int
  | .int i => some i
  | _ => none
def pSo (f : Ex) : Px := fun ρ => f ρ >>= fun p => pk p.2 p.1 >>= fun d => liftO (dInt d) >>= fun i => .ok (some i, p.2)
theorem p_no : POk g none pNo := fun X W A tk => PO.imp po_none fun σ H Q ⟨ρ, R, q⟩ => q H (Ext.refl H) R
theorem p_so {f : Ex} (h : EOk g e f) : POk g (some e) (pSo f) := fun X W A tk => by
  refine PO.imp (po_some (h.n A tk)) fun σ H Q ⟨ρ, R, q⟩ => tN_step R q fun s1 ρ1 x H1 R1 E1 n1 q1 => ?_
  obtain ⟨d1, h1, q3⟩ := q1.pk
  obtain ⟨i, ho, q5⟩ := q3.opt
  have rd := pk_rd n1 R1 (Ext.refl _) h1
  cases d1 <;> simp only [dInt] at ho <;> cases ho
  exact ⟨i, rd.int, q5 H1 (Ext.refl _) R1⟩
theorem tP_step {K : PySem.W.Frag} {σ : L2.St} {H : Hp} {W : WX} {β : Type} {G : β → Hp → Prop} {ρ : Rho} {fa : Px} {k : Option Int × Rho → Out β} {Q : Option Int → Hp → Prop} (R : ER K g ρ σ H) (q : Pst K g σ H W G (fa ρ >>= k))
    (h : ∀ s ρ1 H1, ER K g ρ1 σ H1 → Ext H H1 → Pst K g σ H1 W G (k (s, ρ1)) → Q s H1) : tP K g fa W σ H Q := by
  refine ⟨ρ, R, ?_⟩
  cases ha : fa ρ with
  | stuck => rw [ha] at q; exact q.elim
  | exc c ρ1 => rw [ha] at q; exact q
  | ok p =>
    rw [ha] at q
    exact fun H1 E1 R1 => h p.1 p.2 H1 R1 E1 (Pst.ext E1 (r := k p) q)
def eSl (f : Ex) (lo hi : Px) : Ex := fun ρ => f ρ >>= fun p => lo p.2 >>= fun q => hi q.2 >>= fun r => pk r.2 p.1 >>= fun d => liftO (dSl d q.1 r.1) >>= fun s => .ok (s, r.2)
theorem e_sl {lo hi : Option Expr} {f : Ex} {fl fh : Px} {p2 : Pos} (h : EOk g e f) (hl : POk g lo fl) (hh : POk g hi fh) : EOk g (.Subscript e (.Slice lo hi none p2) pos) (eSl f fl fh) := fun X W A tk => by
  refine PE.imp (pe_slice (SlR.or sl_list (SlR.or sl_tupA sl_str)) (h.n A tk) (hl X W A tk) (hh X W A tk)) fun σ H Q ⟨ρ, R, q⟩ => ?_
  refine tN_step R q fun s1 ρ1 x H1 R1 E1 n1 q1 => tP_step R1 q1 fun l ρ2 H2 R2 E2 q2 => tP_step R2 q2 fun u ρ3 H3 R3 E3 q3 => ?_
  obtain ⟨d, h1, q4⟩ := q3.pk
  obtain ⟨s, ho, q5⟩ := q4.opt
  have rd := pk_rd n1 R3 (E2.trans E3) h1
  have fin : ∀ z H', Same H3 H' → RS X.K H3 H' s z → Q z H' := fun z H' sm rs => q5 H' (Ext.of_same sm) (R3.same sm) z (rs.sr R3)
  cases d <;> simp only [dSl] at ho <;> try (cases ho; done)
  · split at ho
    · rename_i z hz
      cases ho
      exact .inr (.inr ⟨z, rd.str, line_le hz, fin _ H3 (Same.refl _) rfl⟩)
    · cases ho
  · cases ho
    obtain ⟨a, vs, e1, s1, i1⟩ := rd.tup
    refine .inr (.inl ⟨a, vs, e1, s1.seq, fun hw => ?_, fun hw p hp => ?_⟩)
    · rw [i1.len] at hw
      rw [cut_whole _ _ _ hw] at fin
      exact fin _ H3 (Same.refl _) ⟨a, vs, rfl, s1, i1⟩
    · exact fin _ _ (new_tup (K := X.K) hp) ⟨p, _, rfl, TpT.of upd_same, ImmL.ext (Ext.of_same (new_tup (K := X.K) hp)) _ _ (immL_cut i1 _ _)⟩
  · cases ho
    obtain ⟨a, vs, e1, s1, i1⟩ := rd.lst
    exact .inl ⟨a, vs, e1, s1, fun p hp => fin _ _ (new_tup (K := X.K) hp) ⟨p, rfl, hp, _, upd_same, ImmL.ext (Ext.of_same (new_tup (K := X.K) hp)) _ _ (immL_cut i1 _ _)⟩⟩
  · cases ho
    obtain ⟨a, e1, s1⟩ := rd.scr
    exact .inl ⟨a, _, e1, s1, fun p hp => fin _ _ (new_tup (K := X.K) hp) ⟨p, rfl, hp, _, upd_same, by rw [cutV_map]; exact immL_map_int _⟩⟩
/-- xs[::-1] of a list -/
def dRev : D → Option S
  | .lst ds => some (.o (.lst ds.reverse))
  | _ => none

/-! ### calls of built-ins, by the values -/
def CR (X : Cx) (f : Value) (od : List D → Option S) : Prop :=
  ∃ r : List V → Hp → VK → Prop, CallR X f r ∧ ∀ (xs : List V) (H : Hp) (Q : VK) (ds : List D) (s : S), Paired (Rd X.K H) ds xs → od ds = some s → (∀ z H', Same H H' → RS X.K H H' s z → Q z H') → r xs H Q
def pkL (ρ : Rho) : List S → Out (List D)
  | [] => .ok []
  | s :: ss => pk ρ s >>= fun d => pkL ρ ss >>= fun ds => .ok (d :: ds)
theorem pkL_rd {K : PySem.W.Frag} {ρ' : Rho} {σ : L2.St} {H : Hp} (R : ER K g ρ' σ H) : ∀ {ss : List S} {xs : List V} {ds : List D}, NRL K σ H ss xs → pkL ρ' ss = .ok ds → Paired (Rd K H) ds xs
  | [], _, _, n, h => by cases h; cases (show _ = _ from n); exact .nil
  | s :: ss, _, ds, ⟨x, r, e, n1, n2⟩, h => by
    subst e
    unfold pkL at h
    cases h1 : pk ρ' s with
    | stuck => rw [h1] at h; cases h
    | exc c ρ1 => exact (pk_noexc h1).elim
    | ok d =>
      rw [h1] at h
      simp only [bind_ok] at h
      cases h2 : pkL ρ' ss with
      | stuck => rw [h2] at h; cases h
      | exc c ρ1 => rw [h2] at h; cases h
      | ok es =>
        rw [h2] at h
        cases h
        exact .cons (pk_rd n1 R (Ext.refl _) h1) (pkL_rd R n2 h2)
theorem pkL_noexc {ρ ρ' : Rho} {c : Str} : ∀ {ss : List S}, pkL ρ ss = .exc c ρ' → False
  | [], h => nomatch h
  | s :: ss, h => by
    unfold pkL at h
    cases h1 : pk ρ s with
    | stuck => rw [h1] at h; cases h
    | exc c ρ1 => exact (pk_noexc h1).elim
    | ok d =>
      rw [h1] at h
      simp only [bind_ok] at h
      cases h2 : pkL ρ ss with
      | stuck => rw [h2] at h; cases h
      | exc c ρ1 => exact pkL_noexc h2
      | ok es => rw [h2] at h; cases h
theorem Pst.pkL {K : PySem.W.Frag} {σ : L2.St} {H : Hp} {W : WX} {β : Type} {G : β → Hp → Prop} {ρ : Rho} {s : List S} {k : List D → Out β} (q : Pst K g σ H W G (PL.pkL ρ s >>= k)) : ∃ d, PL.pkL ρ s = .ok d ∧ Pst K g σ H W G (k d) := by
  cases h : PL.pkL ρ s with
  | stuck => rw [h] at q; exact q.elim
  | exc c ρ' => exact (pkL_noexc h).elim
  | ok d => rw [h] at q; exact ⟨d, rfl, q⟩
def eB (od : List D → Option S) (fa : Ax) : Ex := fun ρ => fa ρ >>= fun p => pkL p.2 p.1 >>= fun ds => liftO (od ds) >>= fun s => .ok (s, p.2)
theorem readCB {X : Cx} {W : WX} {r : List V → Hp → VK → Prop} {od : List D → Option S} {fa : Ax} {σ : L2.St} {H : Hp} {Q : VK}
    (h : ∀ (xs : List V) (H : Hp) (Q : VK) (ds : List D) (s : S), Paired (Rd X.K H) ds xs → od ds = some s → (∀ z H', Same H H' → RS X.K H H' s z → Q z H') → r xs H Q)
    (t : tE X.K g (eB od fa) W σ H Q) : tA X.K g fa W σ H fun xs H1 => r xs H1 Q := by
  obtain ⟨ρ, R, q⟩ := t
  refine tA_step R q fun ss ρ1 xs H1 R1 E1 n1 q1 => ?_
  obtain ⟨ds, h1, q3⟩ := q1.pkL
  obtain ⟨s, ho, q5⟩ := q3.opt
  exact h xs H1 Q ds s (pkL_rd R1 n1 h1) ho fun z H' sm rs => q5 H' (Ext.of_same sm) (R1.same sm) z (rs.sr R1)
theorem e_cb {x : Str} {id : String} {p : Pos} {od : List D → Option S} {fa : Ax} (hc : ∀ X, At g X → CR X (.builtin id) od) (hm : g.mg x = none) (hv : bootBuiltins x = some (.builtin id)) (ha : AOk g (e :: es) fa) (hg : Glo g x := by rfl)
    (hn : x ≠ "__name__" := by decide) (hdb : (x == ("__debug__" : Str)) = false := by decide)
    (he : ∀ env, starEach (e :: es) env = (false, eval e env) :: starEach es env := by intro _; rfl) (hpl : ∀ env, (backTo pos (starEach es env)).any (·.1) = false := by intro _; rfl) : EOk g (.Call (.Name x p) (e :: es) [] pos) (eB od fa) := fun X W A tk => by
  obtain ⟨r, hr, h⟩ := hc X A
  exact PE.imp (pe_callB hr (hg.gl A) (by rw [A.mg]; exact hm) hv (ha X W A tk) hn hdb (he _) (hpl _)) fun σ H Q t => readCB h t
theorem e_cty {x : Str} {T : String} {p : Pos} {od : List D → Option S} {fa : Ax} (hc : ∀ X, At g X → CR X (.type T) od) (hm : g.mg x = none) (hv : bootBuiltins x = some (.type T)) (ha : AOk g (e :: es) fa) (hg : Glo g x := by rfl)
    (hn : x ≠ "__name__" := by decide) (hdb : (x == ("__debug__" : Str)) = false := by decide)
    (he : ∀ env, starEach (e :: es) env = (false, eval e env) :: starEach es env := by intro _; rfl) (hpl : ∀ env, (backTo pos (starEach es env)).any (·.1) = false := by intro _; rfl) : EOk g (.Call (.Name x p) (e :: es) [] pos) (eB od fa) := fun X W A tk => by
  obtain ⟨r, hr, h⟩ := hc X A
  exact PE.imp (pe_callTy hr (hg.gl A) (by rw [A.mg]; exact hm) hv (ha X W A tk) hn hdb (he _) (hpl _)) fun σ H Q t => readCB h t
end
end PL

namespace PL
open PySem PySem.Spec PyProof.Rows L2
theorem pair1 {α β : Type} {R : α → β → Prop} {d : α} {xs : List β} (h : Paired R [d] xs) : ∃ x, xs = [x] ∧ R d x := by
  cases h with
  | cons r t => cases t; exact ⟨_, rfl, r⟩
theorem pair2 {α β : Type} {R : α → β → Prop} {d e : α} {xs : List β} (h : Paired R [d, e] xs) : ∃ x y, xs = [x, y] ∧ R d x ∧ R e y := by
  cases h with
  | cons r t =>
    cases t with
    | cons r' t => cases t; exact ⟨_, _, rfl, r, r'⟩
theorem CallR.or {X : Cx} {f : Value} {r r' : List V → Hp → VK → Prop} (h : CallR X f r) (h' : CallR X f r') : CallR X f (fun xs H Q => r xs H Q ∨ r' xs H Q) := by
  intro pins s σ H xs us Q I rx q
  rcases q with q | q
  · exact h pins s σ H xs us Q I rx q
  · exact h' pins s σ H xs us Q I rx q
section
variable {g : Cf} {X : Cx} {e a b c : Expr} {es : List Expr} {pos : Pos}
/-! ### len, abs, int, str, tuple, list, sum .. -/
def dLen : List D → Option S
  | [.str z] => if z.length ≤ 16777216 then some (.v (.int z.length)) else none
  | [.tup ds] => some (.v (.int ds.length))
  | [.lst ds] => some (.v (.int ds.length))
  | [.scr ns] => some (.v (.int ns.length))
  | [.ktp ds] => some (.v (.int ds.length))
  | _ => none
theorem c_len (A : At g X) : CR X (.builtin "len") dLen := by
  refine ⟨_, call_len, fun xs H Q ds s p h q => ?_⟩
  match ds, h with
  | [.str z], h =>
    obtain ⟨x, rfl, r⟩ := pair1 p
    cases r.str
    simp only [dLen] at h
    split at h
    · rename_i hz
      cases h
      exact ⟨_, _, rfl, ⟨line_le hz, rfl⟩, q _ H (Same.refl H) rfl⟩
    · cases h
  | [.tup ds], h =>
    obtain ⟨x, rfl, r⟩ := pair1 p
    obtain ⟨a, vs, rfl, s1, i1⟩ := r.tup
    cases h
    exact ⟨_, ds.length, rfl, .inr ⟨vs, s1.seq, i1.len.symm⟩, q _ H (Same.refl H) rfl⟩
  | [.lst ds], h =>
    obtain ⟨x, rfl, r⟩ := pair1 p
    obtain ⟨a, vs, rfl, s1, i1⟩ := r.lst
    cases h
    exact ⟨_, ds.length, rfl, .inl ⟨vs, s1, i1.len.symm⟩, q _ H (Same.refl H) rfl⟩
  | [.scr ns], h =>
    obtain ⟨x, rfl, r⟩ := pair1 p
    obtain ⟨a, rfl, s1⟩ := r.scr
    cases h
    exact ⟨_, ns.length, rfl, .inl ⟨_, s1, by rw [List.length_map]⟩, q _ H (Same.refl H) rfl⟩
  | [.ktp ds], h =>
    obtain ⟨x, rfl, r⟩ := pair1 p
    obtain ⟨a, vs, rfl, s1, i1⟩ := r.ktp
    cases h
    exact ⟨_, ds.length, rfl, .inr ⟨vs, s1.seq, i1.len.symm⟩, q _ H (Same.refl H) rfl⟩
def dAbs : List D → Option S
  | [.int i] => some (.v (.int (if i < 0 then -i else i)))
  | _ => none
theorem c_abs (A : At g X) : CR X (.builtin "abs") dAbs := by
  refine ⟨_, call_abs, fun xs H Q ds s p h q => ?_⟩
  match ds, h with
  | [.int i], h =>
    obtain ⟨x, rfl, r⟩ := pair1 p
    cases h
    cases r.int
    exact ⟨i, rfl, q _ H (Same.refl H) rfl⟩
def dInt1 : List D → Option S
  | [.int i] => some (.v (.int i))
  | [.bl k] => some (.v (.int (if k then 1 else 0)))
  | _ => none
theorem c_int (A : At g X) : CR X (.type "int") dInt1 := by
  refine ⟨_, call_int1, fun xs H Q ds s p h q => ?_⟩
  match ds, h with
  | [.int i], h =>
    obtain ⟨x, rfl, r⟩ := pair1 p
    cases h
    cases r.int
    exact .inl ⟨i, rfl, q _ H (Same.refl H) rfl⟩
  | [.bl k], h =>
    obtain ⟨x, rfl, r⟩ := pair1 p
    cases h
    cases r.bl
    exact .inr ⟨k, rfl, q _ H (Same.refl H) rfl⟩
def dStr1 : List D → Option S
  | [.int i] => if i.natAbs.log2 < 1920 then some (.v (.str (Str.ofString (toString i)))) else none
  | _ => none
theorem c_str (A : At g X) : CR X (.type "str") dStr1 := by
  refine ⟨_, call_str_int, fun xs H Q ds s p h q => ?_⟩
  match ds, h with
  | [.int i], h =>
    obtain ⟨x, rfl, r⟩ := pair1 p
    simp only [dStr1] at h
    split at h
    · rename_i hz
      cases h
      cases r.int
      exact ⟨i, rfl, hz, q _ H (Same.refl H) rfl⟩
    · cases h
def dTup1 : List D → Option S
  | [.tup ds] => some (.v (.tup ds))
  | [.lst ds] => some (.v (.tup ds))
  | [.scr ns] => some (.v (.tup (ns.map .int)))
  | [.ktp ds] => some (.v (.ktp ds))
  | _ => none
theorem c_tup (A : At g X) : CR X (.type "tuple") dTup1 := by
  refine ⟨_, call_tuple_of, fun xs H Q ds s p h q => ?_⟩
  match ds, h with
  | [.tup ds], h =>
    obtain ⟨x, rfl, r⟩ := pair1 p
    obtain ⟨a, vs, rfl, s1, i1⟩ := r.tup
    cases h
    exact ⟨a, vs, rfl, .inr ⟨s1.seq, q _ H (Same.refl H) ⟨a, vs, rfl, s1, i1⟩⟩⟩
  | [.lst ds], h =>
    obtain ⟨x, rfl, r⟩ := pair1 p
    obtain ⟨a, vs, rfl, s1, i1⟩ := r.lst
    cases h
    exact ⟨a, vs, rfl, .inl ⟨s1, fun p hp => q _ _ (new_tup (K := X.K) hp) ⟨p, _, rfl, TpT.of upd_same, ImmL.ext (Ext.of_same (new_tup (K := X.K) hp)) _ _ i1⟩⟩⟩
  | [.scr ns], h =>
    obtain ⟨x, rfl, r⟩ := pair1 p
    obtain ⟨a, rfl, s1⟩ := r.scr
    cases h
    exact ⟨a, _, rfl, .inl ⟨s1, fun p hp => q _ _ (new_tup (K := X.K) hp) ⟨p, _, rfl, TpT.of upd_same, immL_map_int ns⟩⟩⟩
  | [.ktp ds], h =>
    obtain ⟨x, rfl, r⟩ := pair1 p
    obtain ⟨a, vs, rfl, s1, i1⟩ := r.ktp
    cases h
    exact ⟨a, vs, rfl, .inr ⟨s1.seq, q _ H (Same.refl H) ⟨a, vs, rfl, s1, i1⟩⟩⟩
def dLst1 : List D → Option S
  | [.tup ds] => some (.o (.lst ds))
  | [.lst ds] => some (.o (.lst ds))
  | [.scr ns] => some (.o (.lst (ns.map .int)))
  | [.ktp ds] => some (.o (.lst ds))
  | _ => none
theorem c_list (A : At g X) : CR X (.type "list") dLst1 := by
  refine ⟨_, call_list_of, fun xs H Q ds s p h q => ?_⟩
  match ds, h with
  | [.tup ds], h =>
    obtain ⟨x, rfl, r⟩ := pair1 p
    obtain ⟨a, vs, rfl, s1, i1⟩ := r.tup
    cases h
    exact ⟨a, vs, rfl, .inr s1.seq, fun p hp => q _ _ (new_tup (K := X.K) hp) ⟨p, rfl, hp, _, upd_same, ImmL.ext (Ext.of_same (new_tup (K := X.K) hp)) _ _ i1⟩⟩
  | [.ktp ds], h =>
    obtain ⟨x, rfl, r⟩ := pair1 p
    obtain ⟨a, vs, rfl, s1, i1⟩ := r.ktp
    cases h
    exact ⟨a, vs, rfl, .inr s1.seq, fun p hp => q _ _ (new_tup (K := X.K) hp) ⟨p, rfl, hp, _, upd_same, ImmL.ext (Ext.of_same (new_tup (K := X.K) hp)) _ _ i1⟩⟩
  | [.lst ds], h =>
    obtain ⟨x, rfl, r⟩ := pair1 p
    obtain ⟨a, vs, rfl, s1, i1⟩ := r.lst
    cases h
    exact ⟨a, vs, rfl, .inl s1, fun p hp => q _ _ (new_tup (K := X.K) hp) ⟨p, rfl, hp, _, upd_same, ImmL.ext (Ext.of_same (new_tup (K := X.K) hp)) _ _ i1⟩⟩
  | [.scr ns], h =>
    obtain ⟨x, rfl, r⟩ := pair1 p
    obtain ⟨a, rfl, s1⟩ := r.scr
    cases h
    exact ⟨a, _, rfl, .inl s1, fun p hp => q _ _ (new_tup (K := X.K) hp) ⟨p, rfl, hp, _, upd_same, immL_map_int ns⟩⟩
def blsD : List D → Option (List Bool)
  | [] => some []
  | .bl i :: ds => (blsD ds).map (i :: ·)
  | _ :: _ => none
theorem immL_bls {K : PySem.W.Frag} {H : Hp} : ∀ {ds : List D} {vs : List V} {ns : List Bool}, ImmL K H ds vs → blsD ds = some ns → vs = ns.map V.bl
  | [], _, _, h, e => by cases (show _ = _ from h); cases e; rfl
  | .bl i :: ds, _, ns, ⟨v, r, e1, h1, h2⟩, e => by
    subst e1
    cases (show _ = _ from h1)
    simp only [blsD] at e
    cases hh : blsD ds with
    | none => rw [hh] at e; cases e
    | some ms =>
      rw [hh] at e
      cases e
      rw [List.map_cons, immL_bls h2 hh]
  | .non :: _, _, _, _, e => nomatch e
  | .int _ :: _, _, _, _, e => nomatch e
  | .str _ :: _, _, _, _, e => nomatch e
  | .tup _ :: _, _, _, _, e => nomatch e
  | .lst _ :: _, _, _, _, e => nomatch e
  | .dic _ _ :: _, _, _, _, e => nomatch e
  | .scr _ :: _, _, _, _, e => nomatch e
  | .ktp _ :: _, _, _, _, e => nomatch e
def dAll : List D → Option S
  | [.lst ds] => (blsD ds).map fun bs => .v (.bl (bs.all id))
  | _ => none
def dAny : List D → Option S
  | [.lst ds] => (blsD ds).map fun bs => .v (.bl (bs.any id))
  | _ => none
theorem c_all (A : At g X) : CR X (.builtin "all") dAll := by
  refine ⟨_, cr_all A.calm, fun xs H Q ds s p h q => ?_⟩
  match ds, h with
  | [.lst ds], h =>
    obtain ⟨x, rfl, r⟩ := pair1 p
    obtain ⟨a, vs, rfl, s1, i1⟩ := r.lst
    simp only [dAll] at h
    cases hb : blsD ds with
    | none => rw [hb] at h; cases h
    | some bs =>
      rw [hb] at h
      cases h
      exact ⟨a, bs, rfl, by rw [← immL_bls i1 hb]; exact s1, q _ H (Same.refl H) rfl⟩
theorem c_any (A : At g X) : CR X (.builtin "any") dAny := by
  refine ⟨_, cr_any A.calm, fun xs H Q ds s p h q => ?_⟩
  match ds, h with
  | [.lst ds], h =>
    obtain ⟨x, rfl, r⟩ := pair1 p
    obtain ⟨a, vs, rfl, s1, i1⟩ := r.lst
    simp only [dAny] at h
    cases hb : blsD ds with
    | none => rw [hb] at h; cases h
    | some bs =>
      rw [hb] at h
      cases h
      exact ⟨a, bs, rfl, by rw [← immL_bls i1 hb]; exact s1, q _ H (Same.refl H) rfl⟩
def dSum : List D → Option S
  | [.lst ds] => (intsD ds).map fun ns => .v (.int ns.sum)
  | [.scr ns] => some (.v (.int ns.sum))
  | _ => none
theorem c_sum (A : At g X) : CR X (.builtin "sum") dSum := by
  refine ⟨_, cr_sum A.calm, fun xs H Q ds s p h q => ?_⟩
  match ds, h with
  | [.lst ds], h =>
    obtain ⟨x, rfl, r⟩ := pair1 p
    obtain ⟨a, vs, rfl, s1, i1⟩ := r.lst
    simp only [dSum] at h
    cases hb : intsD ds with
    | none => rw [hb] at h; cases h
    | some bs =>
      rw [hb] at h
      cases h
      exact ⟨a, bs, rfl, by rw [← immL_ints i1 hb]; exact s1, q _ H (Same.refl H) rfl⟩
  | [.scr ns], h =>
    obtain ⟨x, rfl, r⟩ := pair1 p
    obtain ⟨a, rfl, s1⟩ := r.scr
    cases h
    exact ⟨a, ns, rfl, s1, q _ H (Same.refl H) rfl⟩
/-- the greatest, the least of ints -/
def maxI : List Int → Int
  | [] => 0
  | n :: ns => ns.foldl max n
def minI : List Int → Int
  | [] => 0
  | n :: ns => ns.foldl min n
theorem foldl_max_spec : ∀ (ns : List Int) (a : Int), (a ≤ ns.foldl max a) ∧ (∀ y ∈ ns, y ≤ ns.foldl max a) ∧ (ns.foldl max a = a ∨ ns.foldl max a ∈ ns)
  | [], a => ⟨Int.le_refl _, by simp, .inl rfl⟩
  | n :: ns, a => by
    obtain ⟨h1, h2, h3⟩ := foldl_max_spec ns (max a n)
    refine ⟨by simp only [List.foldl_cons]; omega, fun y hy => ?_, ?_⟩
    · simp only [List.foldl_cons]
      rcases List.mem_cons.mp hy with rfl | hy
      · omega
      · exact h2 y hy
    · simp only [List.foldl_cons]
      rcases h3 with h3 | h3
      · rw [h3]
        by_cases c : n ≤ a
        · left; omega
        · right; rw [show max a n = n by omega]; exact List.mem_cons_self
      · right; exact List.mem_cons_of_mem _ h3
theorem foldl_min_spec : ∀ (ns : List Int) (a : Int), (ns.foldl min a ≤ a) ∧ (∀ y ∈ ns, ns.foldl min a ≤ y) ∧ (ns.foldl min a = a ∨ ns.foldl min a ∈ ns)
  | [], a => ⟨Int.le_refl _, by simp, .inl rfl⟩
  | n :: ns, a => by
    obtain ⟨h1, h2, h3⟩ := foldl_min_spec ns (min a n)
    refine ⟨by simp only [List.foldl_cons]; omega, fun y hy => ?_, ?_⟩
    · simp only [List.foldl_cons]
      rcases List.mem_cons.mp hy with rfl | hy
      · omega
      · exact h2 y hy
    · simp only [List.foldl_cons]
      rcases h3 with h3 | h3
      · rw [h3]
        by_cases c : a ≤ n
        · left; omega
        · right; rw [show min a n = n by omega]; exact List.mem_cons_self
      · right; exact List.mem_cons_of_mem _ h3
theorem maxI_mem {ns : List Int} (h : 0 < ns.length) : maxI ns ∈ ns := by
  cases ns with
  | nil => simp at h
  | cons n ns =>
    obtain ⟨_, _, h3⟩ := foldl_max_spec ns n
    rcases h3 with h3 | h3
    · show ns.foldl max n ∈ _; rw [h3]; exact List.mem_cons_self
    · exact List.mem_cons_of_mem _ h3
theorem maxI_le {ns : List Int} {y : Int} (h : y ∈ ns) : y ≤ maxI ns := by
  cases ns with
  | nil => cases h
  | cons n ns =>
    obtain ⟨h1, h2, _⟩ := foldl_max_spec ns n
    rcases List.mem_cons.mp h with rfl | h
    · exact h1
    · exact h2 y h
theorem minI_mem {ns : List Int} (h : 0 < ns.length) : minI ns ∈ ns := by
  cases ns with
  | nil => simp at h
  | cons n ns =>
    obtain ⟨_, _, h3⟩ := foldl_min_spec ns n
    rcases h3 with h3 | h3
    · show ns.foldl min n ∈ _; rw [h3]; exact List.mem_cons_self
    · exact List.mem_cons_of_mem _ h3
theorem minI_le {ns : List Int} {y : Int} (h : y ∈ ns) : minI ns ≤ y := by
  cases ns with
  | nil => cases h
  | cons n ns =>
    obtain ⟨h1, h2, _⟩ := foldl_min_spec ns n
    rcases List.mem_cons.mp h with rfl | h
    · exact h1
    · exact h2 y h
def dMax : List D → Option S
  | [.int i, .int j] => some (.v (.int (if j > i then j else i)))
  | [.lst ds] => match intsD ds with
    | some (n :: ns) => some (.v (.int (maxI (n :: ns))))
    | _ => none
  | _ => none
def dMin : List D → Option S
  | [.int i, .int j] => some (.v (.int (if j < i then j else i)))
  | [.lst ds] => match intsD ds with
    | some (n :: ns) => some (.v (.int (minI (n :: ns))))
    | _ => none
  | _ => none
theorem c_max (A : At g X) : CR X (.builtin "max") dMax := by
  refine ⟨_, CallR.or (call_max2 A.calm) (cr_max A.calm), fun xs H Q ds s p h q => ?_⟩
  match ds, h with
  | [.int i, .int j], h =>
    obtain ⟨x, y, rfl, r, r'⟩ := pair2 p
    cases h
    cases r.int
    cases r'.int
    exact .inl ⟨i, j, rfl, q _ H (Same.refl H) rfl⟩
  | [.lst ds], h =>
    obtain ⟨x, rfl, r⟩ := pair1 p
    obtain ⟨a, vs, rfl, s1, i1⟩ := r.lst
    simp only [dMax] at h
    cases hb : intsD ds with
    | none => rw [hb] at h; cases h
    | some bs =>
      cases bs with
      | nil => rw [hb] at h; cases h
      | cons n ns =>
        rw [hb] at h
        cases h
        refine .inr ⟨a, n :: ns, rfl, by rw [← immL_ints i1 hb]; exact s1, by simp, fun m hm hle => ?_⟩
        have e : m = maxI (n :: ns) := Int.le_antisymm (maxI_le hm) (hle _ (maxI_mem (by simp)))
        subst e
        exact q _ H (Same.refl H) rfl
theorem c_min (A : At g X) : CR X (.builtin "min") dMin := by
  refine ⟨_, CallR.or (call_min2 A.calm) (cr_min A.calm), fun xs H Q ds s p h q => ?_⟩
  match ds, h with
  | [.int i, .int j], h =>
    obtain ⟨x, y, rfl, r, r'⟩ := pair2 p
    cases h
    cases r.int
    cases r'.int
    exact .inl ⟨i, j, rfl, q _ H (Same.refl H) rfl⟩
  | [.lst ds], h =>
    obtain ⟨x, rfl, r⟩ := pair1 p
    obtain ⟨a, vs, rfl, s1, i1⟩ := r.lst
    simp only [dMin] at h
    cases hb : intsD ds with
    | none => rw [hb] at h; cases h
    | some bs =>
      cases bs with
      | nil => rw [hb] at h; cases h
      | cons n ns =>
        rw [hb] at h
        cases h
        refine .inr ⟨a, n :: ns, rfl, by rw [← immL_ints i1 hb]; exact s1, by simp, fun m hm hle => ?_⟩
        have e : m = minI (n :: ns) := Int.le_antisymm (hle _ (minI_mem (by simp))) (minI_le hm)
        subst e
        exact q _ H (Same.refl H) rfl
/-! ### isinstance -/
inductive Ty where
  | int | bool | str | tuple | list | dict
def Ty.name : Ty → String
  | .int => "int" | .bool => "bool" | .str => "str" | .tuple => "tuple" | .list => "list" | .dict => "dict"
def isT : Ty → D → Option Bool
  | .dict, .dic false _ => some true
  | _, .dic true _ => none
  | .int, .int _ => some true
  | .int, .bl _ => some true
  | .bool, .bl _ => some true
  | .str, .str _ => some true
  | .tuple, .tup _ => some true
  | .tuple, .ktp _ => some true
  | .list, .lst _ => some true
  | .list, .scr _ => some true
  | _, _ => some false
def tyN : D → String
  | .non => "NoneType" | .bl _ => "bool" | .int _ => "int" | .str _ => "str" | .tup _ => "tuple" | .lst _ => "list" | .dic _ _ => "dict" | .scr _ => "list" | .ktp _ => "tuple"
theorem kit_tab : ∀ (t : Ty) (d : D) (k : Bool), isT t d = some k → kitB (tyN d) t.name = some k := by
  intro t d k h
  cases d with
  | dic b kvs => cases b <;> cases t <;> (cases h <;> (simp only [tyN, Ty.name]; decide +kernel))
  | _ => cases t <;> (cases h; simp only [tyN, Ty.name]; decide +kernel)
theorem tyx_of {K : PySem.W.Frag} {H : Hp} {t : Ty} {d : D} {x : V} {k : Bool} (r : Rd K H d x) (h : isT t d = some k) : TyX K H x (.type (tyN d)) := by
  cases d with
  | non => cases r.non; exact .base .non
  | bl b => cases r.bl; exact .base (.bl b)
  | int b => cases r.int; exact .base (.int b)
  | str b => cases r.str; exact .base (.str b)
  | tup ds =>
    obtain ⟨a, vs, rfl, s1, i1⟩ := r.tup
    exact .base (.tup s1)
  | ktp ds =>
    obtain ⟨a, vs, rfl, s1, i1⟩ := r.ktp
    obtain ⟨o, _, _, s1, _, s2, _⟩ := s1
    exact .kTuple s1 s2
  | lst ds =>
    obtain ⟨a, vs, rfl, s1, i1⟩ := r.lstR
    rcases s1 with s1 | ⟨o, s1⟩
    · exact .base (.lst s1)
    · exact .base (.frz s1)
  | scr ns =>
    obtain ⟨a, rfl, s1⟩ := r.scr
    rcases s1 with (s1 | ⟨o, s1⟩) | ⟨o, _, _, s1, s2, _⟩
    · exact .base (.lst s1)
    · exact .base (.frz s1)
    · exact .kList s1 s2
  | dic b kvs =>
    cases b with
    | true => cases t <;> cases h
    | false =>
      rcases r with ⟨a, o, kws, rfl, h1, h2⟩ | ⟨a, rfl, kws, h1, h2⟩
      · exact .fDict h1
      · exact .base (.dK h1)
def tIsi (f : D → Option Bool) (fa : Ex) : Tx := fun ρ => fa ρ >>= fun p => pk p.2 p.1 >>= fun d => liftO (f d) >>= fun k => .ok (k, p.2)
theorem read_isi {X : Cx} {W : WX} {β : Type} {G : β → Hp → Prop} {f : D → Option Bool} {fa : Ex} {σ : L2.St} {H : Hp} {Q : VK} {ρ : Rho} {k : Bool × Rho → Out β} {r : V → Hp → VK → Prop}
    (h : ∀ (x : V) (H : Hp) (Q : VK) (d : D) (b : Bool), Rd X.K H d x → f d = some b → Q (.bl b) H → r x H Q)
    (R : ER X.K g ρ σ H) (t : Pst X.K g σ H W G (tIsi f fa ρ >>= k)) (hk : ∀ b ρ2 H2, ER X.K g ρ2 σ H2 → Ext H H2 → Pst X.K g σ H2 W G (k (b, ρ2)) → Q (.bl b) H2) : tN X.K g fa W σ H fun x H1 => r x H1 Q := by
  have bb : tIsi f fa ρ >>= k = (fa ρ >>= fun p => pk p.2 p.1 >>= fun d => liftO (f d) >>= fun b => k (b, p.2)) := by
    unfold tIsi
    cases fa ρ with
    | stuck => rfl
    | exc c ρ1 => rfl
    | ok p =>
      simp only [bind_ok]
      cases pk p.2 p.1 with
      | stuck => rfl
      | exc c ρ1 => rfl
      | ok d =>
        simp only [bind_ok]
        cases f d <;> rfl
  rw [bb] at t
  refine tN_step R t fun s1 ρ1 x H1 R1 E1 n1 q1 => ?_
  obtain ⟨d, h1, q3⟩ := q1.pk
  obtain ⟨b, ho, q5⟩ := q3.opt
  exact h x H1 Q d b (pk_rd n1 R1 (Ext.refl _) h1) ho (hk b ρ1 H1 R1 E1 q5)
/-- isinstance(a, T), T a built-in type -/
theorem e_isi (t : Ty) {T : Str} {p p2 : Pos} {fa : Ex} (hT : bootBuiltins T = some (.type t.name)) (hm : g.mg "isinstance" = none) (hmT : g.mg T = none) (ha : EOk g a fa) (hg : Glo g "isinstance" := by rfl) (hgT : Glo g T := by rfl)
    (hn : T ≠ "__name__" := by decide) (hdb : (T == ("__debug__" : Str)) = false := by decide)
    (h1 : ∀ env, starEach (a :: [.Name T p2]) env = (false, eval a env) :: starEach [.Name T p2] env := by intro _; rfl) (h2 : ∀ env, starEach (.Name T p2 :: []) env = (false, eval (.Name T p2) env) :: starEach [] env := by intro _; rfl)
    (hpl : ∀ env, (backTo pos (starEach [.Name T p2] env)).any (·.1) = false := by intro _; rfl) : EOk g (.Call (.Name "isinstance" p) [a, .Name T p2] [] pos) (bE (tIsi (isT t) fa)) := fun X W A tk => by
  refine PE.imp (pe_callB call_isi (hg.gl A) (by rw [A.mg]; exact hm) (by decide +kernel) (pa_cons (ha.n A tk) (pa_cons (pe_bltn (v := .ty t.name) (hgT.gl A) (by rw [A.mg]; exact hmT) hT rfl hn hdb) pa_nil (h2 _)) (h1 _)) (by decide) (by decide) (h1 _) (hpl _)) fun σ H Q ⟨ρ, R, q⟩ => ?_
  refine read_isi (r := fun x H1 Q => rIsi X.K [x, .ty t.name] H1 Q) (fun x H Q d b r h q => ?_) R q fun b ρ2 H2 R2 E2 q => q H2 (Ext.refl _) R2 _ rfl
  exact ⟨x, _, _, _, b, rfl, .ty _, tyx_of r h, kit_ty (kit_tab t d b h), q⟩
theorem t_isi (t : Ty) {T : Str} {p p2 : Pos} {fa : Ex} (hT : bootBuiltins T = some (.type t.name)) (hm : g.mg "isinstance" = none) (hmT : g.mg T = none) (ha : EOk g a fa) (hg : Glo g "isinstance" := by rfl) (hgT : Glo g T := by rfl)
    (hn : T ≠ "__name__" := by decide) (hdb : (T == ("__debug__" : Str)) = false := by decide)
    (h1 : ∀ env, starEach (a :: [.Name T p2]) env = (false, eval a env) :: starEach [.Name T p2] env := by intro _; rfl) (h2 : ∀ env, starEach (.Name T p2 :: []) env = (false, eval (.Name T p2) env) :: starEach [] env := by intro _; rfl)
    (hpl : ∀ env, (backTo pos (starEach [.Name T p2] env)).any (·.1) = false := by intro _; rfl) : TOk g (.Call (.Name "isinstance" p) [a, .Name T p2] [] pos) (tIsi (isT t) fa) := fun X W A tk => by
  refine PT.imp (pt_val (pe_callB call_isi (hg.gl A) (by rw [A.mg]; exact hm) (by decide +kernel) (pa_cons (ha.n A tk) (pa_cons (pe_bltn (v := .ty t.name) (hgT.gl A) (by rw [A.mg]; exact hmT) hT rfl hn hdb) pa_nil (h2 _)) (h1 _)) (by decide) (by decide) (h1 _) (hpl _))) fun σ H Q ⟨ρ, R, q⟩ => ?_
  refine read_isi (Q := fun v H' => ∃ c, v = .bl c ∧ Q c H') (G := fun p H' => ER X.K g p.2 σ H' → Q p.1 H') (k := fun p => .ok p) (r := fun x H1 Q => rIsi X.K [x, .ty t.name] H1 Q) (fun x H Q d b r h q => ?_) R (by rw [bind_self]; exact q) fun b ρ2 H2 R2 E2 q => ⟨b, rfl, q H2 (Ext.refl _) R2⟩
  exact ⟨x, _, _, _, b, rfl, .ty _, tyx_of r h, kit_ty (kit_tab t d b h), q⟩
end
end PL

namespace PL
open PySem PySem.Spec PyProof.Rows L2
/-! ### statements -/
inductive Fl where
  | next (ρ : Rho) | ret (s : S) (ρ : Rho) | brk (ρ : Rho) | cnt (ρ : Rho)
abbrev Sx := Rho → Out Fl
section
variable {g : Cf} {X : Cx} {e a b c : Expr} {es : List Expr} {pos : Pos} {K : PySem.W.Frag} {W : WX}
/-- a value that is bound to a name, or handed back -/
def BR (K : PySem.W.Frag) (g : Cf) (ρ : Rho) (σ : L2.St) (H : Hp) : S → V → Prop
  | .v d, x => Imm K H d x
  | .o d, x => ∃ a, x = .ref a ∧ OwnAt K H a d ∧ ¬ Own ρ σ a ∧ g.H0 a = none
  | .b _, _ => False
def bd (l : List Nat) (s : S) (ρ : Rho) : Out (S × Rho) := match s with
  | .v d => .ok (.v d, ρ)
  | .o d => .ok (.o d, ρ)
  | .b i => fz l (.b i) ρ >>= fun p => .ok (.v p.1, p.2)
def eBd (l : List Nat) (f : Ex) : Ex := fun ρ => f ρ >>= fun p => bd l p.1 p.2
def tBd (K : PySem.W.Frag) (g : Cf) (f : Ex) (W : WX) : TE := fun σ H Q => ∃ ρ, ER K g ρ σ H ∧ Pst K g σ H W (fun p H' => ER K g p.2 σ H' → ∀ x, BR K g p.2 σ H' p.1 x → Q x H') (eBd g.ios f ρ)
theorem EOk.bd {f : Ex} (h : EOk g e f) (A : At g X) (tk : Takes X W) : PE X e (tBd X.K g f W) := by
  refine ⟨fun pins s σ H Q I ⟨ρ, R, q⟩ => ?_⟩
  unfold eBd at q
  cases hf : f ρ with
  | stuck => rw [hf] at q; exact q.elim
  | exc c ρ' =>
    rw [hf] at q
    exact (h X W A tk).run pins s σ H Q I ⟨ρ, R, by rw [hf]; exact q⟩
  | ok p =>
    obtain ⟨s', ρ'⟩ := p
    rw [hf] at q
    have q : Pst X.K g σ H W (fun p H' => ER X.K g p.2 σ H' → ∀ x, BR X.K g p.2 σ H' p.1 x → Q x H') (PL.bd g.ios s' ρ') := q
    refine thn ((h X W A tk).run pins s σ H (fun x H' => ER X.K g ρ' σ H' ∧ Ext H H' ∧ SR X.K g ρ' σ H' s' x) I ⟨ρ, R, by rw [hf]; exact fun H' b a x c => ⟨a, b, c⟩⟩) fun u s1 ⟨x, H1, I1, r1, R1, e1, sr⟩ => ?_
    cases s' with
    | v d => exact ⟨x, H1, I1, r1, q H1 e1 R1 x sr⟩
    | o d => exact ⟨x, H1, I1, r1, q H1 e1 R1 x sr⟩
    | b i =>
      unfold PL.bd at q
      obtain ⟨p, hp, q2⟩ := q.fz
      obtain ⟨H2, I2, R2, E2, im⟩ := fz_ok I1 R1 (z := .b i) (x := x) sr.1 (d := p.1) (ρ' := p.2) hp
      exact ⟨x, H2, I2, r1, q2 H2 (e1.trans E2) R2 x im⟩
/-- what is wanted behind statements -/
def PsS (K : PySem.W.Frag) (g : Cf) (H : Hp) (W : WX) (D : Ends) : Out Fl → Prop
  | .ok (.next ρ') => ∀ σ' H', Ext H H' → ER K g ρ' σ' H' → D.nx σ' H'
  | .ok (.ret s ρ') => ∀ σ' H' x, Ext H H' → ER K g ρ' σ' H' → BR K { g with io := g.io } [] [] H' s x → D.rt x H'
  | .ok (.brk ρ') => ∀ σ' H', Ext H H' → ER K g ρ' σ' H' → D.bk σ' H'
  | .ok (.cnt ρ') => ∀ σ' H', Ext H H' → ER K g ρ' σ' H' → D.ct σ' H'
  | .exc c ρ' => ∀ cls σ' H', Ext H H' → ER K g ρ' σ' H' → g.mg c = some cls → W cls none σ' H'
  | .stuck => False
def tS (K : PySem.W.Frag) (g : Cf) (f : Sx) (W : WX) : TS := fun D σ H => ∃ ρ, ER K g ρ σ H ∧ PsS K g H W D (f ρ)
/-- the context of a statement -/
structure AtS (g : Cf) (X : Cx) : Prop extends At g X where
  own : PassesOwn (model X.prog X.w) X.A X.env X.xe
  stk : X.stack = X.env :: X.outer
  fr : X.env.frame = some X.env.locals
def SOk (g : Cf) (st : Stmt) (f : Sx) : Prop := ∀ (X : Cx) (W : WX), AtS g X → Takes X W → PS X st (tS X.K g f W)
def SsOk (g : Cf) (st : List Stmt) (f : Sx) : Prop := ∀ (X : Cx) (W : WX), AtS g X → Takes X W → PSs X st (tS X.K g f W)
theorem PsS.ext {H H1 : Hp} {D : Ends} (e : Ext H H1) : ∀ {r : Out Fl}, PsS K g H W D r → PsS K g H1 W D r
  | .ok (.next _), q => fun σ' H' x => q σ' H' (e.trans x)
  | .ok (.ret _ _), q => fun σ' H' x y => q σ' H' x (e.trans y)
  | .ok (.brk _), q => fun σ' H' x => q σ' H' (e.trans x)
  | .ok (.cnt _), q => fun σ' H' x => q σ' H' (e.trans x)
  | .exc _ _, q => fun cls σ' H' x => q cls σ' H' (e.trans x)
  | .stuck, q => q
/-- from a statement's wish to the wish of its first reckoning, of any kind -/
theorem Ps_step {α : Type} {H : Hp} {σ : L2.St} {D : Ends} {G : α → Hp → Prop} {r : Out α} {k : α → Out Fl} (q : PsS K g H W D (r >>= k)) (h : ∀ p, r = .ok p → PsS K g H W D (k p) → ∀ H1, Ext H H1 → G p H1) : Pst K g σ H W G r := by
  cases r with
  | stuck => exact q.elim
  | exc c ρ1 => exact fun cls H' R x m => q cls σ H' x R m
  | ok p => exact fun H1 E1 => h p rfl q H1 E1
theorem PsS.opt {α : Type} {H : Hp} {D : Ends} {o : Option α} {k : α → Out Fl} (q : PsS K g H W D (liftO o >>= k)) : ∃ a, o = some a ∧ PsS K g H W D (k a) := by
  cases o with
  | none => exact q.elim
  | some a => exact ⟨a, rfl, q⟩
theorem PsS.pk {H : Hp} {D : Ends} {ρ : Rho} {s : S} {k : PL.D → Out Fl} (q : PsS K g H W D (PL.pk ρ s >>= k)) : ∃ d, PL.pk ρ s = .ok d ∧ PsS K g H W D (k d) := by
  cases h : PL.pk ρ s with
  | stuck => rw [h] at q; exact q.elim
  | exc c ρ' => exact (pk_noexc h).elim
  | ok d => rw [h] at q; exact ⟨d, rfl, q⟩
/-! ### blocks -/
def sSeq (f h : Sx) : Sx := fun ρ => f ρ >>= fun r => match r with
  | .next ρ' => h ρ'
  | .ret s ρ' => .ok (.ret s ρ')
  | .brk ρ' => .ok (.brk ρ')
  | .cnt ρ' => .ok (.cnt ρ')
def sNil : Sx := fun ρ => .ok (.next ρ)
variable {st : Stmt} {rest : List Stmt} {f h : Sx}
theorem ss_nil : SsOk g [] sNil := fun X W A tk => PSs.imp pss_nil fun D σ H ⟨ρ, R, q⟩ => q σ H (Ext.refl H) R
theorem ss_one (h1 : SOk g st f) : SsOk g [st] f := fun X W A tk => pss_one (h1 X W A tk)
theorem ss_cons (h1 : SOk g st f) (h2 : SsOk g rest h) : SsOk g (st :: rest) (sSeq f h) := fun X W A tk => by
  refine PSs.imp (pss_cons (h1 X W A tk) (h2 X W A tk)) fun D σ H ⟨ρ, R, q⟩ => ⟨ρ, R, ?_⟩
  unfold sSeq at q
  cases hf : f ρ with
  | stuck => rw [hf] at q; exact q.elim
  | exc c ρ1 => rw [hf] at q; exact q
  | ok p =>
    rw [hf] at q
    cases p with
    | next ρ' => exact fun σ' H' x R' => ⟨ρ', R', PsS.ext x q⟩
    | ret s ρ' => exact q
    | brk ρ' => exact q
    | cnt ρ' => exact q
theorem s_pass : SOk g (.Pass pos) sNil := fun X W A tk => PS.imp ps_pass fun D σ H ⟨ρ, R, q⟩ => q σ H (Ext.refl H) R
def sBrk : Sx := fun ρ => .ok (.brk ρ)
def sCnt : Sx := fun ρ => .ok (.cnt ρ)
theorem s_brk : SOk g (.Break pos) sBrk := fun X W A tk => PS.imp ps_break fun D σ H ⟨ρ, R, q⟩ => q σ H (Ext.refl H) R
theorem s_cnt : SOk g (.Continue pos) sCnt := fun X W A tk => PS.imp ps_continue fun D σ H ⟨ρ, R, q⟩ => q σ H (Ext.refl H) R
/-! ### expressions, returns -/
def sEx (f : Ex) : Sx := fun ρ => f ρ >>= fun p => .ok (.next p.2)
theorem s_ex {f : Ex} (h : EOk g e f) (hs : ∀ env, swapsWith e none pos.line env = pure false := by intro _; rfl) : SOk g (.Expr e pos) (sEx f) := fun X W A tk => by
  refine PS.imp (ps_expr (h.n A.toAt tk) (hs _)) fun D σ H ⟨ρ, R, q⟩ => ⟨ρ, R, Ps_step q fun p _ q1 H1 E1 R1 x n => q1 σ H1 E1 R1⟩
/-- what is handed back: an own object of the def is moved -/
def mv (l : List Nat) (s : S) (ρ : Rho) : Out (S × Rho) := match s with
  | .v d => .ok (.v d, ρ)
  | .o d => .ok (.o d, ρ)
  | .b i => if i ∈ l then .stuck else match ρ[i]? with
    | some (some (.o d)) => .ok (.o d, ρ)
    | some (some (.v d)) => .ok (.v d, ρ)
    | _ => .stuck
def sRet (l : List Nat) (f : Ex) : Sx := fun ρ => f ρ >>= fun p => mv l p.1 p.2 >>= fun r => .ok (.ret r.1 r.2)
theorem mv_ok {σ : L2.St} {H : Hp} {ρ ρ' : Rho} {s z : S} {x : V} (R : ER K g ρ σ H) (n : SR K g ρ σ H s x) (h : mv g.ios s ρ = .ok (z, ρ')) : ρ' = ρ ∧ BR K g [] [] H z x := by
  have no : ∀ a, ¬ Own ([] : Rho) ([] : L2.St) a := fun a ⟨i, d, h1, _⟩ => by simp at h1
  cases s with
  | v d => cases h; exact ⟨rfl, n⟩
  | o d =>
    cases h
    obtain ⟨a, h1, h2, h3, h4⟩ := n
    exact ⟨rfl, a, h1, h2, no a, h4⟩
  | b i =>
    obtain ⟨n1, d, n2⟩ := n
    simp only [mv] at h
    split at h
    · cases h
    · rename_i hio
      rw [n2] at h
      cases h
      obtain ⟨a, h1, h2⟩ := R.own i d n2
      rw [n1] at h1; cases h1
      refine ⟨rfl, a, rfl, h2, no a, (R.new i d a n2 n1).elim id fun z => (hio (List.mem_map.mpr ⟨_, z, rfl⟩)).elim⟩
theorem mv_noexc {l : List Nat} {ρ ρ' : Rho} {s : S} {c : Str} (h : mv l s ρ = .exc c ρ') : False := by
  cases s with
  | v d => cases h
  | o d => cases h
  | b i =>
    simp only [mv] at h
    split at h
    · cases h
    · split at h <;> cases h
theorem s_ret {f : Ex} (h : EOk g e f) : SOk g (.Return (some e) pos) (sRet g.ios f) := fun X W A tk => by
  refine PS.imp (ps_ret (h X W A.toAt tk)) fun D σ H ⟨ρ, R, q⟩ => ⟨ρ, R, Ps_step q fun p _ q1 H1 E1 R1 x n => ?_⟩
  cases hm : mv g.ios p.1 p.2 with
  | stuck => rw [hm] at q1; exact q1.elim
  | exc c ρ' => exact (mv_noexc hm).elim
  | ok r =>
    rw [hm] at q1
    obtain ⟨h1, h2⟩ := mv_ok R1 n (z := r.1) (ρ' := r.2) hm
    exact q1 σ H1 x E1 (by rw [h1]; exact R1) h2
def sRetN : Sx := fun ρ => .ok (.ret (.v .non) ρ)
theorem s_retN : SOk g (.Return none pos) sRetN := fun X W A tk => PS.imp ps_retN fun D σ H ⟨ρ, R, q⟩ => q σ H .non (Ext.refl H) R rfl
/-! ### names bound -/
theorem ER.set {σ : L2.St} {H : Hp} {ρ : Rho} {i : Nat} {s : S} {x : V} (R : ER K g ρ σ H) (b : BR K g ρ σ H s x) (hio : i ∉ g.ios) : ER K g (ρ.set i (some s)) (σ.set i (some x)) H := by
  have hl := R.len
  rcases Nat.lt_or_ge i ρ.length with hlt | hge
  · have hσ : i < σ.length := hl ▸ hlt
    have gρ : ∀ j, (ρ.set i (some s))[j]? = if j = i then some (some s) else ρ[j]? := fun j => by
      by_cases hj : j = i
      · subst hj; rw [if_pos rfl, List.getElem?_set_self hlt]
      · rw [if_neg hj, List.getElem?_set_ne (Ne.symm hj)]
    have gσ : ∀ j, (σ.set i (some x))[j]? = if j = i then some (some x) else σ[j]? := fun j => by
      by_cases hj : j = i
      · subst hj; rw [if_pos rfl, List.getElem?_set_self hσ]
      · rw [if_neg hj, List.getElem?_set_ne (Ne.symm hj)]
    have isO : ∀ {d}, s = .o d → ∃ a, x = .ref a ∧ OwnAt K H a d ∧ ¬ Own ρ σ a ∧ g.H0 a = none := fun {d} e => by subst e; exact b
    refine ⟨by rw [List.length_set, List.length_set]; exact hl, fun j d h => ?_, fun j d h => ?_, fun j m h => ?_, fun j m d d' a h1 h2 h3 h4 => ?_, R.old, fun j d a h1 h2 => ?_, fun p hp => ?_⟩
    · rw [gρ] at h
      rw [gσ]
      by_cases hj : j = i
      · rw [if_pos hj] at h ⊢
        cases h
        exact ⟨x, rfl, b⟩
      · rw [if_neg hj] at h ⊢
        exact R.val j d h
    · rw [gρ] at h
      rw [gσ]
      by_cases hj : j = i
      · rw [if_pos hj] at h ⊢
        cases h
        obtain ⟨a, rfl, h2, _⟩ := isO rfl
        exact ⟨a, rfl, h2⟩
      · rw [if_neg hj] at h ⊢
        exact R.own j d h
    · rw [gρ] at h
      by_cases hj : j = i
      · rw [if_pos hj] at h
        cases h
        exact b
      · rw [if_neg hj] at h
        exact R.bor j m h
    · rw [gρ] at h1 h2
      rw [gσ] at h3 h4
      by_cases hj : j = i
      · by_cases hm : m = i
        · rw [hj, hm]
        · rw [if_pos hj] at h1 h3
          rw [if_neg hm] at h2 h4
          cases h1
          obtain ⟨a', e, _, h7, _⟩ := isO rfl
          rw [e] at h3
          cases h3
          exact (h7 ⟨m, d', h2, h4⟩).elim
      · by_cases hm : m = i
        · rw [if_neg hj] at h1 h3
          rw [if_pos hm] at h2 h4
          cases h2
          obtain ⟨a', e, _, h7, _⟩ := isO rfl
          rw [e] at h4
          cases h4
          exact (h7 ⟨j, d, h1, h3⟩).elim
        · rw [if_neg hj] at h1 h3
          rw [if_neg hm] at h2 h4
          exact R.sep j m d d' a h1 h2 h3 h4
    · rw [gρ] at h1
      rw [gσ] at h2
      by_cases hj : j = i
      · rw [if_pos hj] at h1 h2
        cases h1
        obtain ⟨a', e, _, _, h8⟩ := isO rfl
        rw [e] at h2
        cases h2
        exact .inl h8
      · rw [if_neg hj] at h1 h2
        exact R.new j d a h1 h2
    · obtain ⟨h1, d, h2⟩ := R.io p hp
      have hj : p.1 ≠ i := fun z => hio (List.mem_map.mpr ⟨p, hp, z⟩)
      rw [gσ, if_neg hj]
      refine ⟨h1, d, ?_⟩
      rw [gρ, if_neg hj]
      exact h2
  · rw [List.set_eq_of_length_le hge, List.set_eq_of_length_le (hl ▸ hge)]
    exact R
def sSet (l : List Nat) (i : Nat) (f : Ex) : Sx := fun ρ => eBd l f ρ >>= fun p => if i ∈ l then .stuck else .ok (.next (p.2.set i (some p.1)))
/-- the name stands in slot i -/
structure Slot (g : Cf) (x : Str) (i : Nat) : Prop where
  nd : g.N.Nodup
  ix : g.N[i]? = some x
  loc : L2.Loc g.sc x
  fn : g.fn x = true ∨ g.sc.names.lookup x = some .local
theorem s_set {i : Nat} {x : Str} {f : Ex} {pos' : Pos} (sl : Slot g x i) (h : EOk g e f) (hs : ∀ env, env.scope = g.sc → swapsWith e (some (.Name x pos')) pos.line env = pure false := by intro _ _; rfl) : SOk g (.Assign [.Name x pos'] e pos) (sSet g.ios i f) := fun X W A tk => by
  refine PS.imp (ps_set (i := i) (by rw [A.N]; exact sl.nd) (by rw [A.N]; exact sl.ix) (by unfold L2.Loc; rw [A.sc]; exact sl.loc) (h.bd A.toAt tk) (hs _ A.sc) (by rw [A.sc]; exact sl.fn.imp (A.fn x) id)) fun D σ H ⟨ρ, R, q⟩ => ⟨ρ, R, Ps_step q fun p _ q1 H1 E1 R1 x b => ?_⟩
  split at q1
  · exact q1.elim
  · rename_i hio
    exact q1 _ H1 E1 (R1.set b hio)
/-! ### targets -/
abbrev Gx := D → Rho → Option Rho
abbrev Gxs := List D → Rho → Option Rho
/-- only the slots ts differ -/
def Chs (ts : List Nat) (σ σ' : L2.St) : Prop := σ'.length = σ.length ∧ ∀ j : Nat, j ∉ ts → σ'[j]? = σ[j]?
theorem Chs.refl (ts : List Nat) (σ : L2.St) : Chs ts σ σ := ⟨rfl, fun _ _ => rfl⟩
theorem Chs.trans {ts us : List Nat} {σ σ' σ'' : L2.St} (a : Chs ts σ σ') (b : Chs us σ' σ'') : Chs (ts ++ us) σ σ'' :=
  ⟨b.1.trans a.1, fun j hj => (b.2 j fun z => hj (List.mem_append_right _ z)).trans (a.2 j fun z => hj (List.mem_append_left _ z))⟩
def PsG (K : PySem.W.Frag) (g : Cf) (ts : List Nat) (σ : L2.St) (H : Hp) (Q : L2.St → Hp → Prop) : Option Rho → Prop
  | some ρ' => ∀ σ' H', Chs ts σ σ' → Ext H H' → ER K g ρ' σ' H' → Q σ' H'
  | _ => False
def tGx (K : PySem.W.Frag) (g : Cf) (ts : List Nat) (f : Gx) : TG := fun v σ H Q => ∃ ρ d, ER K g ρ σ H ∧ Imm K H d v ∧ PsG K g ts σ H Q (f d ρ)
def tGxs (K : PySem.W.Frag) (g : Cf) (ts : List Nat) (f : Gxs) : TGs := fun vs σ H Q => ∃ ρ ds, ER K g ρ σ H ∧ ImmL K H ds vs ∧ PsG K g ts σ H Q (f ds ρ)
def GOk (g : Cf) (e : Expr) (ts : List Nat) (f : Gx) : Prop := ∀ (X : Cx), At g X → PG X e (tGx X.K g ts f)
def GsOk (g : Cf) (es : List Expr) (ts : List Nat) (f : Gxs) : Prop := ∀ (X : Cx), At g X → PGs X es (tGxs X.K g ts f)
theorem PG.imp {X : Cx} {e : Expr} {t t' : TG} (h : PG X e t) (hi : ∀ v σ H Q, t' v σ H Q → t v σ H Q) : PG X e t' := ⟨fun pins s σ H v u Q I r q => h.run pins s σ H v u Q I r (hi v σ H Q q)⟩
theorem PGs.imp {X : Cx} {e : List Expr} {t t' : TGs} (h : PGs X e t) (hi : ∀ v σ H Q, t' v σ H Q → t v σ H Q) : PGs X e t' := ⟨fun pins s σ H v u Q I r q => h.run pins s σ H v u Q I r (hi v σ H Q q)⟩
theorem PG.or {X : Cx} {e : Expr} {t t' : TG} (h : PG X e t) (h' : PG X e t') : PG X e (fun v σ H Q => t v σ H Q ∨ t' v σ H Q) := ⟨fun pins s σ H v u Q I r q => by
  rcases q with q | q
  · exact h.run pins s σ H v u Q I r q
  · exact h'.run pins s σ H v u Q I r q⟩
def gNm (l : List Nat) (i : Nat) : Gx := fun d ρ => if i ∈ l then none else some (ρ.set i (some (.v d)))
theorem g_nm {i : Nat} {x : Str} (sl : Slot g x i) : GOk g (.Name x pos) [i] (gNm g.ios i) := fun X A => by
  refine PG.imp (pg_name (i := i) (by rw [A.N]; exact sl.nd) (by rw [A.N]; exact sl.ix) (by unfold L2.Loc; rw [A.sc]; exact sl.loc) (by rw [A.sc]; exact sl.fn.imp (A.fn x) id)) fun v σ H Q ⟨ρ, d, R, im, q⟩ => ?_
  unfold gNm at q
  split at q
  · exact q.elim
  · rename_i hio
    exact q _ H ⟨by rw [List.length_set], fun j hj => List.getElem?_set_ne (fun z => hj (by rw [← z]; exact List.mem_singleton_self _))⟩ (Ext.refl H) (R.set (s := .v d) im hio)
def gsNil : Gxs := fun ds ρ => match ds with
  | [] => some ρ
  | _ => none
def gsCons (f : Gx) (r : Gxs) : Gxs := fun ds ρ => match ds with
  | d :: ds => (f d ρ).bind fun ρ' => r ds ρ'
  | [] => none
theorem gs_nil : GsOk g [] [] gsNil := fun X A => PGs.imp pgs_nil fun vs σ H Q ⟨ρ, ds, R, im, q⟩ => by
  cases ds with
  | nil => exact ⟨im, q σ H (Chs.refl _ _) (Ext.refl H) R⟩
  | cons d ds => exact q.elim
theorem gs_cons {f : Gx} {r : Gxs} {ts us : List Nat} (h : GOk g e ts f) (hr : GsOk g es us r) (hs : ∀ env, (assignEach (e :: es) env).map (·.2) = assign e env :: (assignEach es env).map (·.2) := by intro _; rfl) : GsOk g (e :: es) (ts ++ us) (gsCons f r) := fun X A => by
  refine PGs.imp (pgs_cons (h X A) (hr X A) (hs _)) fun vs σ H Q ⟨ρ, ds, R, im, q⟩ => ?_
  cases ds with
  | nil => exact q.elim
  | cons d ds =>
    obtain ⟨v, r', e, im1, im2⟩ := im
    refine ⟨v, r', e, ρ, d, R, im1, ?_⟩
    simp only [gsCons] at q
    cases hf : f d ρ with
    | none => rw [hf] at q; exact q.elim
    | some ρ1 =>
      rw [hf] at q
      intro σ1 H1 C1 E1 R1
      refine ⟨ρ1, ds, R1, ImmL.ext E1 _ _ im2, ?_⟩
      simp only [Option.bind_some] at q
      cases hr : r ds ρ1 with
      | none => rw [hr] at q; exact q.elim
      | some ρ2 => rw [hr] at q; exact fun σ2 H2 C2 E2 R2 => q σ2 H2 (C1.trans C2) (E1.trans E2) R2
def gTp (n : Nat) (r : Gxs) : Gx := fun d ρ => match d with
  | .tup ds => if ds.length = n then r ds ρ else none
  | .lst ds => if ds.length = n then r ds ρ else none
  | .ktp ds => if ds.length = n then r ds ρ else none
  | _ => none
theorem g_tp {k n : Nat} {r : Gxs} {ts : List Nat} (h : GsOk g es ts r) (hn : ∀ env, (assignEach es env).length = n := by intro _; rfl) (hst : ∀ env, (assignEach es env).findIdx? (·.1) = none := by intro _; rfl) : GOk g (.Tuple es k pos) ts (gTp n r) := fun X A => by
  refine PG.imp (PG.or (pg_tup A.calm (h X A) (hn _) (hst _)) (pg_lst A.calm (h X A) (hn _) (hst _))) fun v σ H Q ⟨ρ, d, R, im, q⟩ => ?_
  unfold gTp at q
  cases d with
  | tup ds =>
    dsimp only at q
    split at q
    · rename_i hl
      obtain ⟨a, vs, e, s1, i1⟩ := im
      exact .inl ⟨a, vs, e, s1.seq, by rw [i1.len]; exact hl, ρ, ds, R, i1, q⟩
    · exact q.elim
  | lst ds =>
    dsimp only at q
    split at q
    · rename_i hl
      obtain ⟨a, vs, e, s1, i1⟩ := im
      exact .inr ⟨a, vs, e, s1.seq, by rw [i1.len]; exact hl, ρ, ds, R, i1, q⟩
    · exact q.elim
  | ktp ds =>
    dsimp only at q
    split at q
    · rename_i hl
      obtain ⟨a, vs, e, s1, i1⟩ := im
      exact .inl ⟨a, vs, e, s1.seq, by rw [i1.len]; exact hl, ρ, ds, R, i1, q⟩
    · exact q.elim
  | _ => exact q.elim
/-- target = e -/
def sAsg (l : List Nat) (f : Ex) (t : Gx) : Sx := fun ρ => eF l f ρ >>= fun p => liftO (t p.1 p.2) >>= fun ρ' => .ok (.next ρ')
theorem s_asg {tg : Expr} {f : Ex} {t : Gx} {ts : List Nat} (h : EOk g e f) (hg : GOk g tg ts t) (hs : ∀ env, swapsWithSole [tg] e pos.line env = pure false := by intro _; rfl) (hw : ∀ env, swappedStores [tg] e env = pure none := by intro _; rfl)
    (h1 : ∀ env, (assignEach [tg] env).map (·.2) = [assign tg env] := by intro _; rfl) : SOk g (.Assign [tg] e pos) (sAsg g.ios f t) := fun X W A tk => by
  refine PS.imp (ps_asg (h.f A.toAt tk) (hg X A.toAt) (hs _) (hw _) (h1 _)) fun D σ H ⟨ρ, R, q⟩ => ⟨ρ, R, Ps_step q fun p _ q1 H1 E1 R1 x im => ⟨p.2, p.1, R1, im, ?_⟩⟩
  obtain ⟨ρ2, ht, q2⟩ := q1.opt
  rw [ht]
  exact fun σ2 H2 _ E2 R2 => q2 σ2 H2 (E1.trans E2) R2
end
end PL

namespace PL
open PySem PySem.Spec PyProof.Rows L2
section
variable {g : Cf} {X : Cx} {e a b c tg : Expr} {es : List Expr} {pos : Pos} {K : PySem.W.Frag} {W : WX} {body orelse : List Stmt} {f h : Sx} {t : Tx}
/-! ### if -/
def sIf (t : Tx) (f h : Sx) : Sx := fun ρ => t ρ >>= fun p => if p.1 = true then f p.2 else h p.2
theorem s_if (hc : TOk g c t) (ha : SsOk g body f) (hb : SsOk g orelse h) : SOk g (.If c body orelse pos) (sIf t f h) := fun X W A tk => by
  refine PS.imp (ps_if (hc X W A.toAt tk) (ha X W A tk) (hb X W A tk)) fun D σ H ⟨ρ, R, q⟩ => ⟨ρ, R, Ps_step q fun p _ q1 H1 E1 R1 => ?_⟩
  cases hp : p.1 with
  | true => rw [hp] at q1; exact iteT ⟨p.2, R1, PsS.ext E1 q1⟩
  | false => rw [hp] at q1; exact iteF ⟨p.2, R1, PsS.ext E1 q1⟩
/-! ### loops -/
def aft (k : Sx) : Fl → Out Fl
  | .next ρ' => k ρ'
  | .cnt ρ' => k ρ'
  | .brk ρ' => .ok (.next ρ')
  | .ret s ρ' => .ok (.ret s ρ')
theorem aft_ps {H : Hp} {D : Ends} {r : Out Fl} {k : Sx} {N : L2.St → Hp → Prop} (q : PsS K g H W D (r >>= aft k)) (hN : ∀ ρ' σ' H', Ext H H' → ER K g ρ' σ' H' → PsS K g H' W D (k ρ') → N σ' H') : PsS K g H W { D with nx := N, ct := N, bk := D.nx } r := by
  cases r with
  | stuck => exact q.elim
  | exc c ρ1 => exact q
  | ok p =>
    cases p with
    | next ρ' => exact fun σ' H' x R => hN ρ' σ' H' x R (PsS.ext x q)
    | cnt ρ' => exact fun σ' H' x R => hN ρ' σ' H' x R (PsS.ext x q)
    | brk ρ' => exact q
    | ret s ρ' => exact q
def sWh (t : Tx) (f : Sx) : Nat → Sx
  | 0, _ => .stuck
  | n + 1, ρ => t ρ >>= fun p => if p.1 = true then f p.2 >>= aft (sWh t f n) else .ok (.next p.2)
theorem s_wh (n : Nat) (hc : TOk g c t) (hb : SsOk g body f) : SOk g (.While c body [] pos) (sWh t f n) := fun X W A tk => by
  refine PS.imp (ps_while A.own (hc X W A.toAt tk) (hb X W A tk)) fun D σ H ⟨ρ, R, q⟩ => ?_
  refine ⟨fun m σ H => ∃ ρ, ER X.K g ρ σ H ∧ PsS X.K g H W D (sWh t f m ρ), ⟨n, ρ, R, q⟩, ?_⟩
  rintro m σ H ⟨ρ, R, q⟩
  cases m with
  | zero => exact q.elim
  | succ m =>
    refine ⟨ρ, R, Ps_step q fun p _ q1 H1 E1 R1 => ?_⟩
    cases hp : p.1 with
    | false =>
      rw [hp] at q1
      exact iteF (q1 σ H1 E1 R1)
    | true =>
      rw [hp] at q1
      refine iteT ⟨fun σ' H' => ∃ ρ, ER X.K g ρ σ' H' ∧ PsS X.K g H' W D (sWh t f m ρ), fun σ' H' hN => ⟨m, Nat.lt_succ_self m, hN⟩, p.2, R1, ?_⟩
      exact aft_ps (PsS.ext E1 q1) fun ρ' σ' H' x R' q' => ⟨ρ', R', q'⟩
/-! ### what is walked -/
abbrev Ix := Rho → Out (List D × Rho)
def ItOk (K : PySem.W.Frag) (J : It) (ds : List D) (H : Hp) : Prop :=
  ∃ (G : Hp → Prop) (Y : Nat → Hp → V → Hp → Prop), Walk J ds.length G Y ∧ G H ∧ (∀ H1 H2, Ext H1 H2 → G H1 → G H2) ∧
    ∀ i H1 x H2, i < ds.length → G H1 → Y i H1 x H2 → Same H1 H2 ∧ ∃ d, ds[i]? = some d ∧ Imm K H2 d x
def tI (K : PySem.W.Frag) (g : Cf) (f : Ix) (W : WX) : TI := fun σ H R => ∃ ρ, ER K g ρ σ H ∧ Pst K g σ H W (fun p H' => ER K g p.2 σ H' → ∀ J, ItOk K J p.1 H' → R J H') (f ρ)
def IOk (g : Cf) (tg e : Expr) (f : Ix) : Prop := ∀ (X : Cx) (W : WX), At g X → Takes X W → PI X tg e (tI X.K g f W)
def lp (t : Gx) (f : Sx) : List D → Sx
  | [], ρ => .ok (.next ρ)
  | d :: ds, ρ => liftO (t d ρ) >>= fun ρ1 => f ρ1 >>= aft (lp t f ds)
def sFor (i : Ix) (t : Gx) (f : Sx) : Sx := fun ρ => i ρ >>= fun p => lp t f p.1 p.2
theorem s_for {i : Ix} {tx : Gx} {ts : List Nat} (hi : IOk g tg e i) (ht : GOk g tg ts tx) (hb : SsOk g body f) (hs : ∀ env x, foldedSetIterable e env x = pure x := by intro _ _; rfl) : SOk g (.For tg e body [] pos) (sFor i tx f) := fun X W A tk => by
  refine PS.imp (ps_for A.own A.calm (hi X W A.toAt tk) (ht X A.toAt) (hb X W A tk) (hs _)) fun D σ H ⟨ρ, R, q⟩ => ⟨ρ, R, Ps_step q fun p _ q1 H1 E1 R1 J it => ?_⟩
  obtain ⟨ds, ρ1⟩ := p
  obtain ⟨G, Y, w, g1, gs, y⟩ := it
  refine for_it w (fun i σ H => G H ∧ ∃ ρ, ER X.K g ρ σ H ∧ PsS X.K g H W D (lp tx f (ds.drop i) ρ)) ⟨g1, ρ1, R1, PsS.ext E1 q1⟩ (fun i σ H _ h => h.1) (fun i x σ2 H2 H3 hi h hy => ?_) (fun σ2 H2 h => ?_)
  · obtain ⟨g2, ρ2, R2, q2⟩ := h
    obtain ⟨sm, d, hd, im⟩ := y i H2 x H3 hi g2 hy
    have hdrop : ds.drop i = d :: ds.drop (i + 1) := by
      have e1 := List.drop_eq_getElem_cons hi
      rw [List.getElem?_eq_getElem hi] at hd
      rw [e1, Option.some.inj hd]
    rw [hdrop] at q2
    obtain ⟨ρ3, ht3, q3⟩ := q2.opt
    refine ⟨ρ2, d, R2.same sm, im, ?_⟩
    rw [ht3]
    intro σ4 H4 _ E4 R4
    refine ⟨ρ3, R4, aft_ps (PsS.ext ((Ext.of_same sm).trans E4) q3) fun ρ' σ' H' x R' q' => ⟨gs _ _ ((Ext.of_same sm).trans (E4.trans x)) g2, ρ', R', q'⟩⟩
  · obtain ⟨_, ρ2, R2, q2⟩ := h
    rw [List.drop_length] at q2
    exact q2 σ2 H2 (Ext.refl _) R2
/-! ### lists, tuples, texts, dicts' keys -/
theorem PI.or {X : Cx} {tg e : Expr} {t t' : TI} (h : PI X tg e t) (h' : PI X tg e t') : PI X tg e (fun σ H R => t σ H R ∨ t' σ H R) := ⟨fun pins s σ H R I q => by
  rcases q with q | q
  · exact h.run pins s σ H R I q
  · exact h'.run pins s σ H R I q⟩
def dIter : D → Option (List D)
  | .tup ds => some ds
  | .lst ds => some ds
  | .scr ns => some (ns.map .int)
  | .ktp ds => some ds
  | .str z => some (z.cps.toList.map fun c => .str ⟨#[c]⟩)
  | .dic _ kvs => some (kvs.map (·.1))
  | _ => none
theorem walkImm {K : PySem.W.Frag} {ds : List D} {vs : List V} {G : Hp → Prop} (im : ∀ H, G H → ImmL K H ds vs) : ∀ i H1 x H2, i < ds.length → G H1 → YAt vs i H1 x H2 → Same H1 H2 ∧ ∃ d, ds[i]? = some d ∧ Imm K H2 d x := fun i H1 x H2 hi hg hy => by
  obtain ⟨rfl, h2⟩ := hy
  exact ⟨Same.refl _, (im H2 hg).get h2⟩
theorem it_tup {K : PySem.W.Frag} {H : Hp} {ds : List D} {vs : List V} {a : Addr} (h1 : TpT K H a vs) (h2 : ImmL K H ds vs) : ItOk K (Itt K a) ds H := by
  refine ⟨fun H => TpT K H a vs ∧ ImmL K H ds vs, YAt vs, ?_, ⟨h1, h2⟩, fun H1 H2 e g => ⟨e.sqT g.1, ImmL.ext e _ _ g.2⟩, walkImm fun H g => g.2⟩
  rw [← h2.len]
  exact walk_tup.mono (fun H g => g.1.seq) fun _ _ _ _ _ _ y => y
theorem it_ktp {K : PySem.W.Frag} {H : Hp} {ds : List D} {vs : List V} {a : Addr} (h1 : KtT K a vs) (h2 : ImmL K H ds vs) : ItOk K (Itt K a) ds H := by
  refine ⟨fun H => KtT K a vs ∧ ImmL K H ds vs, YAt vs, ?_, ⟨h1, h2⟩, fun H1 H2 e g => ⟨g.1, ImmL.ext e _ _ g.2⟩, walkImm fun H g => g.2⟩
  rw [← h2.len]
  exact walk_tup.mono (fun H g => g.1.seq) fun _ _ _ _ _ _ y => y
theorem it_lst {K : PySem.W.Frag} {H : Hp} {ds : List D} {vs : List V} {a : Addr} (h1 : FzL K H a vs) (h2 : ImmL K H ds vs) : ItOk K (Itl K a) ds H := by
  refine ⟨fun H => FzL K H a vs ∧ ImmL K H ds vs, YAt vs, ?_, ⟨h1, h2⟩, fun H1 H2 e g => ⟨e.fzL g.1, ImmL.ext e _ _ g.2⟩, walkImm fun H g => g.2⟩
  rw [← h2.len]
  exact walk_list.mono (fun H g => g.1.seq) fun _ _ _ _ _ _ y => y
theorem it_scr {K : PySem.W.Frag} {H : Hp} {ns : List Int} {a : Addr} (h1 : ScrL K H a (ns.map V.int)) : ItOk K (Itl K a) (ns.map .int) H := by
  refine ⟨fun H => ScrL K H a (ns.map V.int), YAt (ns.map V.int), ?_, h1, fun H1 H2 e g => e.scrL g, walkImm fun H g => immL_map_int ns⟩
  have := (walk_list (K := K) (a := a) (xs := ns.map V.int)).mono (G' := fun H => ScrL K H a (ns.map V.int)) (fun H g => g.seq) fun _ _ _ _ _ _ y => y
  rw [List.length_map] at this ⊢
  exact this
theorem it_str {K : PySem.W.Frag} {H : Hp} {z : Str} : ItOk K (Its z) (z.cps.toList.map fun c => .str ⟨#[c]⟩) H := by
  refine ⟨fun _ => True, fun i H v H' => H' = H ∧ ∃ c, z.cps[i]? = some c ∧ v = .str ⟨#[c]⟩, ?_, trivial, fun _ _ _ g => g, fun i H1 x H2 hi _ hy => ?_⟩
  · have := walk_str (z := z)
    rw [List.length_map, Array.length_toList]
    exact this
  · obtain ⟨rfl, c, h1, rfl⟩ := hy
    refine ⟨Same.refl _, .str ⟨#[c]⟩, ?_, rfl⟩
    rw [List.getElem?_map, Array.getElem?_toList, h1]
    rfl
theorem immK_get {K : PySem.W.Frag} {H : Hp} : ∀ {kvs : List (D × D)} {kws : List (Key × V)} {i : Nat} {k : Key} {v : V}, ImmK K H kvs kws → kws[i]? = some (k, v) → ∃ kd d, kvs[i]? = some (kd, d) ∧ keyD kd = some k ∧ Imm K H d v
  | [], _, _, _, _, h, e => by cases (show _ = _ from h); simp at e
  | (kd, d) :: ds, _, 0, k, x, ⟨kk, v, r, e1, h0, h1, h2⟩, e => by subst e1; simp at e; obtain ⟨rfl, rfl⟩ := e; exact ⟨kd, d, rfl, h0, h1⟩
  | (kd, d) :: ds, _, i + 1, k, x, ⟨kk, v, r, e1, h0, h1, h2⟩, e => by
    subst e1
    obtain ⟨kd', d', h3, h4⟩ := immK_get (i := i) (k := k) (v := x) h2 (by simpa using e)
    exact ⟨kd', d', by simpa using h3, h4⟩
theorem immK_len {K : PySem.W.Frag} {H : Hp} : ∀ {ds : List (D × D)} {vs : List (Key × V)}, ImmK K H ds vs → vs.length = ds.length
  | [], _, h => by cases (show _ = _ from h); rfl
  | (_, d) :: ds, _, ⟨_, v, r, e1, _, h1, h2⟩ => by rw [e1, List.length_cons, List.length_cons, immK_len h2]
theorem imm_key {K : PySem.W.Frag} {H : Hp} {d : D} {k : Key} (h : keyD d = some k) : Imm K H d (kV k) := by
  cases d <;> cases h <;> rfl
theorem immL_keys {K : PySem.W.Frag} {H : Hp} : ∀ {ds : List D} {ks : List Key}, keysD ds = some ks → ImmL K H ds (ks.map kV)
  | [], _, h => by cases h; rfl
  | d :: ds, ks, h => by
    unfold keysD at h
    cases h1 : keyD d with
    | none => rw [h1] at h; cases h
    | some k =>
      rw [h1] at h
      cases h2 : keysD ds with
      | none => rw [h2] at h; cases h
      | some ks' =>
        rw [h2] at h
        cases h
        exact ⟨_, _, rfl, imm_key h1, immL_keys h2⟩
theorem immT_get {K : PySem.W.Frag} {H : Hp} : ∀ {kvs : List (D × D)} {kws : List (List Key × V)} {i : Nat} {k : List Key} {v : V}, ImmT K H kvs kws → kws[i]? = some (k, v) → ∃ kd d, kvs[i]? = some (.tup kd, d) ∧ keysD kd = some k ∧ Imm K H d v
  | [], _, _, _, _, h, e => by cases (show _ = _ from h); simp at e
  | (.tup kd, d) :: ds, _, 0, k, x, ⟨kk, v, r, e1, h0, h1, h2⟩, e => by subst e1; simp at e; obtain ⟨rfl, rfl⟩ := e; exact ⟨kd, d, rfl, h0, h1⟩
  | (.tup kd, d) :: ds, _, i + 1, k, x, ⟨kk, v, r, e1, h0, h1, h2⟩, e => by
    subst e1
    obtain ⟨kd', d', h3, h4⟩ := immT_get (i := i) (k := k) (v := x) h2 (by simpa using e)
    exact ⟨kd', d', by simpa using h3, h4⟩
  | (.non, _) :: _, _, _, _, _, h, _ => h.elim
  | (.bl _, _) :: _, _, _, _, _, h, _ => h.elim
  | (.int _, _) :: _, _, _, _, _, h, _ => h.elim
  | (.str _, _) :: _, _, _, _, _, h, _ => h.elim
  | (.lst _, _) :: _, _, _, _, _, h, _ => h.elim
  | (.dic _ _, _) :: _, _, _, _, _, h, _ => h.elim
  | (.scr _, _) :: _, _, _, _, _, h, _ => h.elim
  | (.ktp _, _) :: _, _, _, _, _, h, _ => h.elim
theorem immT_len {K : PySem.W.Frag} {H : Hp} : ∀ {ds : List (D × D)} {vs : List (List Key × V)}, ImmT K H ds vs → vs.length = ds.length
  | [], _, h => by cases (show _ = _ from h); rfl
  | (.tup _, d) :: ds, _, ⟨_, v, r, e1, _, h1, h2⟩ => by rw [e1, List.length_cons, List.length_cons, immT_len h2]
  | (.non, _) :: _, _, h => h.elim
  | (.bl _, _) :: _, _, h => h.elim
  | (.int _, _) :: _, _, h => h.elim
  | (.str _, _) :: _, _, h => h.elim
  | (.lst _, _) :: _, _, h => h.elim
  | (.dic _ _, _) :: _, _, h => h.elim
  | (.scr _, _) :: _, _, h => h.elim
  | (.ktp _, _) :: _, _, h => h.elim
theorem it_dk {K : PySem.W.Frag} {H : Hp} {kvs : List (D × D)} {kws : List (Key × V)} {a : Addr} {o : Obj} (h1 : H a = some (.frz o (.dK kws))) (h2 : ImmK K H kvs kws) : ItOk K (Itk a o kws) (kvs.map (·.1)) H := by
  refine ⟨fun H => H a = some (.frz o (.dK kws)) ∧ ImmK K H kvs kws, fun i H x H' => H' = H ∧ ∃ k v, kws[i]? = some (k, v) ∧ x = kV k, ?_, ⟨h1, h2⟩, fun H1 H2 e g => ⟨e.frz g.1, ImmK.ext e _ _ g.2⟩, fun i H1 x H2 hi hg hy => ?_⟩
  · have w := (walk_keys (d := a) (o := o) (kvs := kws)).mono (G' := fun H => H a = some (.frz o (.dK kws)) ∧ ImmK K H kvs kws) (fun H g => g.1) fun _ _ _ _ _ _ y => y
    rw [List.length_map, ← immK_len h2]
    exact w
  · obtain ⟨rfl, k, v, h3, rfl⟩ := hy
    obtain ⟨kd, d, h4, h5, _⟩ := immK_get hg.2 h3
    exact ⟨Same.refl _, kd, by rw [List.getElem?_map, h4]; rfl, imm_key h5⟩
theorem it_dt {K : PySem.W.Frag} {H : Hp} {kvs : List (D × D)} {kws : List (List Key × V)} {a : Addr} {o : Obj} (h1 : H a = some (.frz o (.dT kws))) (h2 : ImmT K H kvs kws) : ItOk K (Itkt a o kws) (kvs.map (·.1)) H := by
  refine ⟨fun H => H a = some (.frz o (.dT kws)) ∧ ImmT K H kvs kws, fun i H x H' => H' = H ∧ ∃ (k : List Key) (v : V) (q : Addr), kws[i]? = some (k, v) ∧ x = .ref q ∧ H q = some (.tup (k.map kV)), ?_, ⟨h1, h2⟩, fun H1 H2 e g => ⟨e.frz g.1, ImmT.ext e _ _ g.2⟩, fun i H1 x H2 hi hg hy => ?_⟩
  · have w := (walk_keysT (d := a) (o := o) (kvs := kws)).mono (G' := fun H => H a = some (.frz o (.dT kws)) ∧ ImmT K H kvs kws) (fun H g => g.1) fun _ _ _ _ _ _ y => y
    rw [List.length_map, ← immT_len h2]
    exact w
  · obtain ⟨rfl, k, v, q, h3, rfl, h6⟩ := hy
    obtain ⟨kd, d, h4, h5, _⟩ := immT_get hg.2 h3
    exact ⟨Same.refl _, .tup kd, by rw [List.getElem?_map, h4]; rfl, q, _, rfl, TpT.of h6, immL_keys h5⟩
def iVal (l : List Nat) (f : Ex) : Ix := fun ρ => eF l f ρ >>= fun p => liftO (dIter p.1) >>= fun ds => .ok (ds, p.2)
theorem i_val {f : Ex} (h : EOk g e f) : IOk g tg e (iVal g.ios f) := fun X W A tk => by
  have hf := h.f A tk
  refine PI.imp (PI.or (pi_list hf) (PI.or (pi_tup hf) (PI.or (pi_str hf) (pi_keys hf)))) fun σ H Q ⟨ρ, R, q⟩ => ?_
  have key : ∀ {Q1 : VK}, (∀ d ρ1 x H1, ER X.K g ρ1 σ H1 → Imm X.K H1 d x → (∀ ds, dIter d = some ds → ∀ J, ItOk X.K J ds H1 → Q J H1) → (∃ ds, dIter d = some ds) → (∃ ρ0, eF g.ios f ρ = .ok (d, ρ0)) → Q1 x H1) → tF X.K g f W σ H Q1 := fun {Q1} hk => by
    refine ⟨ρ, R, ?_⟩
    unfold iVal at q
    cases hf : eF g.ios f ρ with
    | stuck => rw [hf] at q; exact q.elim
    | exc c ρ1 => rw [hf] at q; exact q
    | ok p =>
      rw [hf] at q
      intro H1 E1 R1 x im
      obtain ⟨ds, hd, q2⟩ := q.opt
      exact hk p.1 p.2 x H1 R1 im (fun ds' e' J it => by rw [hd] at e'; cases e'; exact q2 H1 E1 R1 J it) ⟨ds, hd⟩ ⟨p.2, hf⟩
  cases hf2 : eF g.ios f ρ with
  | stuck => unfold iVal at q; rw [hf2] at q; exact q.elim
  | exc c ρ1 => exact .inl (key fun d ρ1 x H1 R1 im hJ hd ⟨ρ0, h0⟩ => by rw [hf2] at h0; cases h0)
  | ok p =>
    obtain ⟨d0, ρ0'⟩ := p
    have same : ∀ {d ρ0}, eF g.ios f ρ = .ok (d, ρ0) → d = d0 := fun {d ρ0} h0 => by rw [hf2] at h0; cases h0; rfl
    cases d0 with
    | lst ds =>
      refine .inl (key fun d ρ1 x H1 R1 im hJ hd ⟨ρ0, h0⟩ => ?_)
      cases same h0
      obtain ⟨a, vs, rfl, s1, i1⟩ := im
      exact ⟨a, rfl, ⟨vs, s1.seq⟩, hJ ds rfl _ (it_lst s1 i1)⟩
    | scr ns =>
      refine .inl (key fun d ρ1 x H1 R1 im hJ hd ⟨ρ0, h0⟩ => ?_)
      cases same h0
      obtain ⟨a, rfl, s1⟩ := im
      exact ⟨a, rfl, ⟨_, s1.seq⟩, hJ _ rfl _ (it_scr s1)⟩
    | tup ds =>
      refine .inr (.inl (key fun d ρ1 x H1 R1 im hJ hd ⟨ρ0, h0⟩ => ?_))
      cases same h0
      obtain ⟨a, vs, rfl, s1, i1⟩ := im
      exact ⟨a, rfl, ⟨vs, s1.seq⟩, hJ ds rfl _ (it_tup s1 i1)⟩
    | ktp ds =>
      refine .inr (.inl (key fun d ρ1 x H1 R1 im hJ hd ⟨ρ0, h0⟩ => ?_))
      cases same h0
      obtain ⟨a, vs, rfl, s1, i1⟩ := im
      exact ⟨a, rfl, ⟨vs, s1.seq⟩, hJ ds rfl _ (it_ktp s1 i1)⟩
    | str z =>
      refine .inr (.inr (.inl (key fun d ρ1 x H1 R1 im hJ hd ⟨ρ0, h0⟩ => ?_)))
      cases same h0
      exact ⟨z, im, hJ _ rfl _ it_str⟩
    | dic t kvs =>
      refine .inr (.inr (.inr (key fun d ρ1 x H1 R1 im hJ hd ⟨ρ0, h0⟩ => ?_)))
      cases same h0
      cases t with
      | false => obtain ⟨a, o, kws, rfl, h1, h2⟩ := im; exact ⟨a, o, rfl, .inl ⟨kws, h1, hJ _ rfl _ (it_dk h1 h2)⟩⟩
      | true => obtain ⟨a, o, kws, rfl, h1, h2⟩ := im; exact ⟨a, o, rfl, .inr ⟨kws, h1, hJ _ rfl _ (it_dt h1 h2)⟩⟩
    | _ => exact .inl (key fun d ρ1 x H1 R1 im hJ hd ⟨ρ0, h0⟩ => by cases same h0; obtain ⟨ds, hd⟩ := hd; cases hd)
/-! ### range -/
def rgD (lo : Int) (n : Nat) : List D := (List.range n).map fun k : Nat => .int (lo + k)
theorem it_rg {K : PySem.W.Frag} {H : Hp} {lo : Int} {n : Nat} : ItOk K (Itr lo n) (rgD lo n) H := by
  refine ⟨fun _ => True, YFn fun i => .int (lo + i), ?_, trivial, fun _ _ _ g => g, fun i H1 x H2 hi _ hy => ?_⟩
  · have w := walk_range (lo := lo) (n := n)
    rw [rgD, List.length_map, List.length_range]
    exact w
  · obtain ⟨rfl, rfl⟩ := hy
    rw [rgD, List.length_map, List.length_range] at hi
    refine ⟨Same.refl _, .int (lo + i), ?_, rfl⟩
    rw [rgD, List.getElem?_map, List.getElem?_range hi]
    rfl
def int1 : List D → Option Int
  | [.int j] => if -4611686018427387904 ≤ j ∧ j < 4611686018427387904 then some j else none
  | _ => none
def int2 : List D → Option (Int × Int)
  | [.int i, .int j] => if -4611686018427387904 ≤ i ∧ i < 4611686018427387904 ∧ -4611686018427387904 ≤ j ∧ j < 4611686018427387904 then some (i, j) else none
  | _ => none
def iRg1 (fa : Ax) : Ix := fun ρ => fa ρ >>= fun p => pkL p.2 p.1 >>= fun ds => liftO (int1 ds) >>= fun j => .ok (rgD 0 j.toNat, p.2)
def iRg2 (fa : Ax) : Ix := fun ρ => fa ρ >>= fun p => pkL p.2 p.1 >>= fun ds => liftO (int2 ds) >>= fun j => .ok (rgD j.1 (j.2 - j.1).toNat, p.2)
theorem i_rg1 {p : Pos} {fa : Ax} (hm : g.mg "range" = none) (ha : AOk g [a] fa) (hg : Glo g "range" := by rfl) (hs : ∀ env, starEach [a] env = [(false, eval a env)] := by intro _; rfl) : IOk g tg (.Call (.Name "range" p) [a] [] pos) (iRg1 fa) := fun X W A tk => by
  refine PI.imp (pi_range1 (hg.gl A) (by rw [A.mg]; exact hm) (ha X W A tk) (hs _)) fun σ H Q ⟨ρ, R, q⟩ => tA_step R q fun ss ρ1 xs H1 R1 E1 n1 q1 => ?_
  obtain ⟨ds, h1, q3⟩ := q1.pkL
  obtain ⟨j, ho, q5⟩ := q3.opt
  have pr := pkL_rd R1 n1 h1
  match ds, ho with
  | [.int j'], ho =>
    obtain ⟨x, rfl, r⟩ := pair1 pr
    simp only [int1] at ho
    split at ho
    · rename_i hz
      cases ho
      exact ⟨j, by rw [r.int], hz.1, hz.2, q5 H1 (Ext.refl _) R1 _ it_rg⟩
    · cases ho
theorem i_rg2 {p : Pos} {fa : Ax} (hm : g.mg "range" = none) (ha : AOk g [a, b] fa) (hg : Glo g "range" := by rfl) (hs : ∀ env, starEach [a, b] env = [(false, eval a env), (false, eval b env)] := by intro _; rfl) (hs2 : ∀ env, starEach [b] env = [(false, eval b env)] := by intro _; rfl) :
    IOk g tg (.Call (.Name "range" p) [a, b] [] pos) (iRg2 fa) := fun X W A tk => by
  refine PI.imp (pi_range2 (hg.gl A) (by rw [A.mg]; exact hm) (ha X W A tk) (hs _) (hs2 _)) fun σ H Q ⟨ρ, R, q⟩ => tA_step R q fun ss ρ1 xs H1 R1 E1 n1 q1 => ?_
  obtain ⟨ds, h1, q3⟩ := q1.pkL
  obtain ⟨j, ho, q5⟩ := q3.opt
  have pr := pkL_rd R1 n1 h1
  match ds, ho with
  | [.int i', .int j'], ho =>
    obtain ⟨x, y, rfl, r, r'⟩ := pair2 pr
    simp only [int2] at ho
    split at ho
    · rename_i hz
      cases ho
      exact ⟨i', j', by rw [r.int, r'.int], hz, q5 H1 (Ext.refl _) R1 _ it_rg⟩
    · cases ho
end
end PL

namespace PL
open PySem PySem.Spec PyProof.Rows L2
/-! ### slots forgotten -/
def wipeE (ρ : Rho) : List Nat → Rho
  | [] => ρ
  | v :: vs => (wipeE ρ vs).set v none
theorem wipe_get (σ : L2.St) (j : Nat) : ∀ vs : List Nat, (wipe σ vs)[j]? = if j ∈ vs then (if j < σ.length then some none else none) else σ[j]?
  | [] => by simp [wipe]
  | v :: vs => by
    unfold wipe
    have ih := wipe_get σ j vs
    by_cases hj : v = j
    · subst hj
      rw [if_pos List.mem_cons_self]
      by_cases hl : v < σ.length
      · rw [if_pos hl, List.getElem?_set_self (by rw [wipe_length]; exact hl)]
      · rw [if_neg hl, List.getElem?_eq_none (by rw [List.length_set, wipe_length]; omega)]
    · rw [List.getElem?_set_ne hj, ih]
      have : (j ∈ v :: vs) ↔ j ∈ vs := by
        rw [List.mem_cons]
        exact ⟨fun h => h.elim (fun z => (hj z.symm).elim) id, .inr⟩
      simp only [this]
theorem wipeE_len (ρ : Rho) : ∀ vs : List Nat, (wipeE ρ vs).length = ρ.length
  | [] => rfl
  | v :: vs => by unfold wipeE; rw [List.length_set, wipeE_len ρ vs]
theorem wipeE_get (ρ : Rho) (j : Nat) : ∀ vs : List Nat, (wipeE ρ vs)[j]? = if j ∈ vs then (if j < ρ.length then some none else none) else ρ[j]?
  | [] => by simp [wipeE]
  | v :: vs => by
    unfold wipeE
    have ih := wipeE_get ρ j vs
    by_cases hj : v = j
    · subst hj
      rw [if_pos List.mem_cons_self]
      by_cases hl : v < ρ.length
      · rw [if_pos hl, List.getElem?_set_self (by rw [wipeE_len]; exact hl)]
      · rw [if_neg hl, List.getElem?_eq_none (by rw [List.length_set, wipeE_len]; omega)]
    · rw [List.getElem?_set_ne hj, ih]
      have : (j ∈ v :: vs) ↔ j ∈ vs := by
        rw [List.mem_cons]
        exact ⟨fun h => h.elim (fun z => (hj z.symm).elim) id, .inr⟩
      simp only [this]
theorem wipeE_some {ρ : Rho} {j : Nat} {s : S} {vs : List Nat} (h : (wipeE ρ vs)[j]? = some (some s)) : j ∉ vs ∧ ρ[j]? = some (some s) := by
  rw [wipeE_get] at h
  split at h
  · split at h <;> cases h
  · rename_i hj; exact ⟨hj, h⟩
theorem wipe_chs {ts vs : List Nat} {σ σ' : L2.St} (c : Chs ts σ σ') (h : ∀ i ∈ ts, i ∈ vs) : wipe σ' vs = wipe σ vs := by
  apply List.ext_getElem?
  intro j
  rw [wipe_get, wipe_get, c.1]
  by_cases hj : j ∈ vs
  · rw [if_pos hj, if_pos hj]
  · rw [if_neg hj, if_neg hj, c.2 j fun z => hj (h j z)]
theorem wipe_wipe (σ : L2.St) (vs : List Nat) : wipe (wipe σ vs) vs = wipe σ vs := by
  apply List.ext_getElem?
  intro j
  rw [wipe_get, wipe_get, wipe_length]
  by_cases hj : j ∈ vs
  · rw [if_pos hj, if_pos hj]
  · rw [if_neg hj, if_neg hj]
section
variable {g : Cf} {X : Cx} {K : PySem.W.Frag}
theorem ER.wipe {σ : L2.St} {H : Hp} {ρ : Rho} {vs : List Nat} (R : ER K g ρ σ H) (hio : ∀ i ∈ vs, i ∉ g.ios) : ER K g (wipeE ρ vs) (L2.wipe σ vs) H := by
  have sg : ∀ j, j ∉ vs → (L2.wipe σ vs)[j]? = σ[j]? := fun j hj => by rw [wipe_get, if_neg hj]
  refine ⟨by rw [wipeE_len, wipe_length]; exact R.len, fun j d h => ?_, fun j d h => ?_, fun j m h => ?_, fun j m d d' a h1 h2 h3 h4 => ?_, R.old, fun j d a h1 h2 => ?_, fun p hp => ?_⟩
  · obtain ⟨hj, h⟩ := wipeE_some h
    rw [sg j hj]
    exact R.val j d h
  · obtain ⟨hj, h⟩ := wipeE_some h
    rw [sg j hj]
    exact R.own j d h
  · obtain ⟨hj, h⟩ := wipeE_some h
    exact R.bor j m h
  · obtain ⟨hj, h1⟩ := wipeE_some h1
    obtain ⟨hm, h2⟩ := wipeE_some h2
    rw [sg j hj] at h3
    rw [sg m hm] at h4
    exact R.sep j m d d' a h1 h2 h3 h4
  · obtain ⟨hj, h1⟩ := wipeE_some h1
    rw [sg j hj] at h2
    exact R.new j d a h1 h2
  · obtain ⟨h1, d, h2⟩ := R.io p hp
    have hj : p.1 ∉ vs := fun z => hio _ z (List.mem_map.mpr ⟨p, hp, rfl⟩)
    rw [sg _ hj]
    refine ⟨h1, d, ?_⟩
    rw [wipeE_get, if_neg hj]
    exact h2
theorem own_wipe {σ : L2.St} {ρ : Rho} {vs : List Nat} {a : Addr} (h : Own (wipeE ρ vs) (L2.wipe σ vs) a) : Own ρ σ a := by
  obtain ⟨i, d, h1, h2⟩ := h
  obtain ⟨hi, h1⟩ := wipeE_some h1
  rw [wipe_get, if_neg hi] at h2
  exact ⟨i, d, h1, h2⟩
/-- what stood ahead of a block and is none of the names' own -/
noncomputable def hold (ρ : Rho) (σ : L2.St) (H : Hp) : Hp := fun a => open Classical in if Own ρ σ a then none else H a
theorem hold_own {ρ : Rho} {σ : L2.St} {H : Hp} {a : Addr} (h : Own ρ σ a) : hold ρ σ H a = none := by unfold hold; rw [if_pos h]
theorem hold_not {ρ : Rho} {σ : L2.St} {H : Hp} {a : Addr} (h : ¬ Own ρ σ a) : hold ρ σ H a = H a := by unfold hold; rw [if_neg h]
theorem ER.rebase {σ : L2.St} {H : Hp} {ρ : Rho} (R : ER K g ρ σ H) (g' : Cf) (h0 : g'.H0 = hold ρ σ H) (hi : g'.io = g.io) : ER K g' ρ σ H where
  len := R.len
  val := R.val
  own := R.own
  bor := R.bor
  sep := R.sep
  old := fun a o h _ => by
    rw [h0] at h
    by_cases ho : Own ρ σ a
    · rw [hold_own ho] at h; cases h
    · rw [hold_not ho] at h; exact h
  new := fun i d a h1 h2 => .inl (by rw [h0]; exact hold_own ⟨i, d, h1, h2⟩)
  io := by rw [hi]; exact R.io
theorem ER.back {σ σ2 : L2.St} {H H2 : Hp} {ρ ρ2 : Rho} (R : ER K g ρ σ H) {g' : Cf} (h0 : g'.H0 = hold ρ σ H) (hi : g'.io = g.io) (R2 : ER K g' ρ2 σ2 H2) : ER K g ρ2 σ2 H2 where
  len := R2.len
  val := R2.val
  own := R2.own
  bor := R2.bor
  sep := R2.sep
  old := fun a o h hp => by
    refine R2.old a o ?_ (by rw [hi]; exact hp)
    have no : ¬ Own ρ σ a := fun ⟨i, d, h1, h2⟩ => by
      rcases R.new i d a h1 h2 with z | z
      · rw [h] at z; cases z
      · exact hp _ z rfl
    rw [h0, hold_not no]
    exact R.old a o h hp
  new := fun i d a h1 h2 => by
    rcases R2.new i d a h1 h2 with z | z
    · rw [h0] at z
      by_cases ho : Own ρ σ a
      · obtain ⟨j, e, h3, h4⟩ := ho
        rcases R.new j e a h3 h4 with y | y
        · exact .inl y
        · have y' := y
          rw [← hi] at y'
          obtain ⟨h5, e', h6⟩ := R2.io _ y'
          have := R2.sep i j d e' a h1 h6 h2 h5
          subst this
          exact .inr y
      · rw [hold_not ho] at z
        exact .inl (not_old R z)
    · rw [hi] at z; exact .inr z
  io := by have := R2.io; rw [hi] at this; exact this
/-! ### a comprehension's block -/
noncomputable def Cf.blk (g : Cf) (scope : Scope) (H0 : Hp) : Cf := { g with sc := relS scope g.sc, fn := fun x => scope.names.lookup x == some .cell, H0 := H0 }
theorem At.blk (A : At g X) {scope : Scope} {s : Shared} {H H0 : Hp} {C : Addr} {cl : List (Str × Addr)} {fp : List Addr} : At (g.blk scope H0) (X.blk s H scope (compEnvC scope cl C X.env) fp) where
  prog := A.prog
  w := A.w
  K := A.K
  mg := A.mg
  base := A.base
  N := A.N
  sc := by
    show (compEnvC scope cl C X.env).scope = _
    show relS scope X.env.scope = relS scope g.sc
    rw [A.sc]
  fn := fun x h => h
  room := A.room
  calm := A.calm
end
def nox {α : Type} : Out α → Out α
  | .ok a => .ok a
  | _ => .stuck
/-- the names of the block as they were ahead of it, the others as it leaves them -/
def unwipe (vs : List Nat) (ρ : Rho) (ρ' : Rho) : Rho := match vs with
  | [] => ρ'
  | v :: vs => (unwipe vs ρ ρ').set v (match ρ[v]? with
    | some (some (.v d)) => some (.v d)
    | _ => none)
theorem unwipe_len (ρ ρ' : Rho) : ∀ vs : List Nat, (unwipe vs ρ ρ').length = ρ'.length
  | [] => rfl
  | v :: vs => by unfold unwipe; rw [List.length_set, unwipe_len ρ ρ' vs]
theorem unwipe_some {ρ ρ' : Rho} {j : Nat} {s : S} : ∀ {vs : List Nat}, (unwipe vs ρ ρ')[j]? = some (some s) → (j ∉ vs ∧ ρ'[j]? = some (some s)) ∨ (j ∈ vs ∧ ρ[j]? = some (some s) ∧ ∃ d, s = .v d)
  | [], h => .inl ⟨by simp, h⟩
  | v :: vs, h => by
    unfold unwipe at h
    by_cases hj : v = j
    · subst hj
      right
      by_cases hl : v < (unwipe vs ρ ρ').length
      · rw [List.getElem?_set_self hl] at h
        split at h
        · rename_i d hd
          cases h
          exact ⟨List.mem_cons_self, hd, d, rfl⟩
        · cases h
      · rw [List.getElem?_eq_none (by rw [List.length_set]; omega)] at h; cases h
    · rw [List.getElem?_set_ne hj] at h
      rcases unwipe_some h with ⟨h1, h2⟩ | ⟨h1, h2⟩
      · exact .inl ⟨fun z => (List.mem_cons.mp z).elim (fun z => hj z.symm) h1, h2⟩
      · exact .inr ⟨List.mem_cons_of_mem _ h1, h2⟩
theorem unwipe_out {ρ ρ' : Rho} {j : Nat} : ∀ {vs : List Nat}, j ∉ vs → (unwipe vs ρ ρ')[j]? = ρ'[j]?
  | [], _ => rfl
  | v :: vs, h => by
    unfold unwipe
    rw [List.getElem?_set_ne (fun z => h (by rw [z]; exact List.mem_cons_self)), unwipe_out fun z => h (List.mem_cons_of_mem _ z)]
section
variable {g : Cf} {X : Cx} {K : PySem.W.Frag}
theorem ER.unwipe {σ : L2.St} {H H' : Hp} {ρ ρ' : Rho} {vs : List Nat} (R : ER K g ρ σ H) (R' : ER K g ρ' (L2.wipe σ vs) H') (e : Ext H H') (hio : ∀ i ∈ vs, i ∉ g.ios) : ER K g (PL.unwipe vs ρ ρ') σ H' := by
  have sg : ∀ j, j ∉ vs → (L2.wipe σ vs)[j]? = σ[j]? := fun j hj => by rw [wipe_get, if_neg hj]
  refine ⟨by rw [unwipe_len, R'.len, wipe_length], fun j d h => ?_, fun j d h => ?_, fun j m h => ?_, fun j m d d' a h1 h2 h3 h4 => ?_, R'.old, fun j d a h1 h2 => ?_, fun p hp => ?_⟩
  · rcases unwipe_some h with ⟨hj, h⟩ | ⟨hj, h, _⟩
    · have := R'.val j d h
      rw [sg j hj] at this
      exact this
    · obtain ⟨x, h1, h2⟩ := R.val j d h
      exact ⟨x, h1, Imm.ext e _ _ h2⟩
  · rcases unwipe_some h with ⟨hj, h⟩ | ⟨hj, h, _, z⟩
    · have := R'.own j d h
      rw [sg j hj] at this
      exact this
    · cases z
  · rcases unwipe_some h with ⟨hj, h⟩ | ⟨hj, h, _, z⟩
    · exact R'.bor j m h
    · cases z
  · rcases unwipe_some h1 with ⟨hj, h1⟩ | ⟨_, _, _, z⟩
    · rcases unwipe_some h2 with ⟨hm, h2⟩ | ⟨_, _, _, z⟩
      · rw [← sg j hj] at h3
        rw [← sg m hm] at h4
        exact R'.sep j m d d' a h1 h2 h3 h4
      · cases z
    · cases z
  · rcases unwipe_some h1 with ⟨hj, h1⟩ | ⟨_, _, _, z⟩
    · rw [← sg j hj] at h2
      exact R'.new j d a h1 h2
    · cases z
  · obtain ⟨h1, d, h2⟩ := R'.io p hp
    have hj : p.1 ∉ vs := fun z => hio _ z (List.mem_map.mpr ⟨p, hp, rfl⟩)
    rw [sg _ hj] at h1
    exact ⟨h1, d, by rw [unwipe_out hj]; exact h2⟩
theorem own_unwipe {σ : L2.St} {ρ ρ' : Rho} {vs : List Nat} {a : Addr} (h : Own (PL.unwipe vs ρ ρ') σ a) : Own ρ' (L2.wipe σ vs) a := by
  obtain ⟨i, d, h1, h2⟩ := h
  rcases unwipe_some h1 with ⟨hj, h⟩ | ⟨_, _, _, z⟩
  · exact ⟨i, d, h, by rw [wipe_get, if_neg hj]; exact h2⟩
  · cases z
end
section
variable {g : Cf} {X : Cx} {e a b c tg elt iter : Expr} {ifs : List Expr} {pos : Pos} {W : WX}
def tsNo : Tx := fun ρ => .ok (true, ρ)
def TsOk (g : Cf) (es : List Expr) (f : Tx) : Prop := ∀ (X : Cx) (W : WX), At g X → Takes X W → PTs X es (tT X.K g f W)
theorem ts_no : TsOk g [] tsNo := fun X W A tk => ⟨fun pins s σ H Q I ⟨ρ, R, q⟩ => pts_nil.run pins s σ H Q I (q H (Ext.refl H) R)⟩
theorem ts_one {t : Tx} (h : TOk g c t) : TsOk g [c] t := fun X W A tk => pts_one (h X W A tk)
def lcLp (l vs : List Nat) (ft : Gx) (tt : Tx) (fe : Ex) : List D → Rho → List D → Out (List D × Rho)
  | [], ρ, acc => .ok (acc, ρ)
  | d :: ds, ρ, acc => liftO (ft d ρ) >>= fun ρ1 => tt ρ1 >>= fun p =>
      if p.1 = true then eF l fe p.2 >>= fun q => if acc.length < 16777216 then lcLp l vs ft tt fe ds (wipeE q.2 vs) (acc ++ [q.1]) else .stuck
      else lcLp l vs ft tt fe ds (wipeE p.2 vs) acc
def eLc (l vs : List Nat) (fi : Ix) (ft : Gx) (tt : Tx) (fe : Ex) : Ex := fun ρ => fi ρ >>= fun p => if (∀ i ∈ vs, i ∉ l) then nox (lcLp l vs ft tt fe p.1 (wipeE p.2 vs) []) >>= fun q => .ok (.o (.lst q.1), unwipe vs p.2 q.2) else .stuck
theorem nox_ok {α : Type} {r : Out α} {a : α} (h : nox r = .ok a) : r = .ok a := by cases r <;> cases h; rfl
theorem nox_noexc {α : Type} {r : Out α} {c : Str} {ρ : Rho} (h : nox r = .exc c ρ) : False := by cases r <;> cases h
theorem bind_is {α β : Type} {r : Out α} {k : α → Out β} {b : β} (h : (r >>= k) = .ok b) : ∃ a, r = .ok a ∧ k a = .ok b := by
  cases r with
  | stuck => cases h
  | exc c ρ => cases h
  | ok a => exact ⟨a, rfl, h⟩
theorem liftO_is {α : Type} {o : Option α} {b : α} (h : liftO o = .ok b) : o = some b := by
  cases o with
  | none => cases h
  | some a => cases h; rfl
/-- the heart of a comprehension's reading -/
theorem read_lc {scope : Scope} {own : List (Str × Nat)} {ts vs : List Nat} {fi : Ix} {ft : Gx} {tt : Tx} {fe : Ex} (A : At g X) (hts : ∀ i ∈ ts, i ∈ vs) {σ : L2.St} {H : Hp} {Q : VK} {tgt : TG} {ttt : TT} {tte : TE}
    (hg : ∀ {v σ2 H2 Q} {H0 : Hp}, tGx X.K (g.blk scope H0) ts ft v σ2 H2 Q → tgt v σ2 H2 Q)
    (ht : ∀ {σ2 H2 Q} {H0 : Hp}, tT X.K (g.blk scope H0) tt (fun _ _ _ _ => False) σ2 H2 Q → ttt σ2 H2 Q)
    (he : ∀ {σ2 H2 Q} {H0 : Hp}, tF X.K (g.blk scope H0) fe (fun _ _ _ _ => False) σ2 H2 Q → tte σ2 H2 Q)
    (t : tE X.K g (eLc g.ios vs fi ft tt fe) W σ H Q) : tLc (tI X.K g fi W) tgt ttt tte vs σ H Q := by
  obtain ⟨ρ, R, q⟩ := t
  refine ⟨ρ, R, ?_⟩
  unfold eLc at q
  cases hf : fi ρ with
  | stuck => rw [hf] at q; exact q.elim
  | exc c ρ1 => rw [hf] at q; exact q
  | ok p =>
    obtain ⟨ds, ρ1⟩ := p
    rw [hf] at q
    simp only [bind_ok] at q
    split at q
    case isFalse => exact q.elim
    rename_i hio
    cases hl : nox (lcLp g.ios vs ft tt fe ds (wipeE ρ1 vs) []) with
    | stuck => rw [hl] at q; exact q.elim
    | exc c ρ' => exact (nox_noexc hl).elim
    | ok r =>
      rw [hl] at q
      obtain ⟨out, ρ9⟩ := r
      have hl := nox_ok hl
      intro H1 E1 R1 J it D hD
      obtain ⟨G, Y, w, g1, gs, y⟩ := it
      have smD : Same H1 (upd H1 D (.lst [])) := new_tup (K := X.K) hD
      refine lc_it w (fun i H2 => G H2 ∧ Ext H1 H2 ∧ ∃ ρi acc vacc, ER X.K g ρi (wipe σ vs) H2 ∧ ¬ Own ρi (wipe σ vs) D ∧ H2 D = some (.lst vacc) ∧ ImmL X.K H2 acc vacc ∧ lcLp g.ios vs ft tt fe (ds.drop i) ρi acc = .ok (out, ρ9)) ?_ (fun i H2 _ h => h.1) (fun i x H2 H3 hi h hy => ?_) (fun H2 h => ?_)
      · refine ⟨gs _ _ (Ext.of_same smD) g1, Ext.of_same smD, wipeE ρ1 vs, [], [], (R1.wipe hio).same smD, fun o => not_own R1 hD (own_wipe o), upd_same, rfl, hl⟩
      · obtain ⟨g2, E2, ρi, acc, vacc, Ri, no, hDi, im, hl2⟩ := h
        obtain ⟨sm, d, hd, imd⟩ := y i H2 x H3 hi g2 hy
        have hdrop : ds.drop i = d :: ds.drop (i + 1) := by
          have e1 := List.drop_eq_getElem_cons hi
          rw [List.getElem?_eq_getElem hi] at hd
          rw [e1, Option.some.inj hd]
        rw [hdrop] at hl2
        obtain ⟨ρ2, h2, hl3⟩ := bind_is hl2
        have h2 := liftO_is h2
        obtain ⟨p, h3, hl4⟩ := bind_is hl3
        have Ri3 := Ri.same sm
        have hD3 : H3 D = some (.lst vacc) := sm _ _ hDi
        have Rb : ER X.K (g.blk scope (hold ρi (wipe σ vs) H3)) ρi (wipe σ vs) H3 := Ri3.rebase _ rfl rfl
        have hH0 : hold ρi (wipe σ vs) H3 D = some (.lst vacc) := by rw [hold_not no]; exact hD3
        have notio : ∀ p ∈ g.io, p.2 ≠ D := fun p hp z => by
          obtain ⟨h5, d', h6⟩ := Ri3.io p hp
          exact no ⟨p.1, d', h6, by rw [h5, z]⟩
        -- what a state of the block tells
        have fin : ∀ {ρ4 : Rho} {σ4 : L2.St} {H4 : Hp}, ER X.K (g.blk scope (hold ρi (wipe σ vs) H3)) ρ4 σ4 H4 → Ext H3 H4 → Chs ts (wipe σ vs) σ4 →
            H4 D = some (.lst vacc) ∧ ER X.K g (wipeE ρ4 vs) (wipe σ vs) H4 ∧ ¬ Own (wipeE ρ4 vs) (wipe σ vs) D ∧ G H4 ∧ Ext H1 H4 := fun {ρ4 σ4 H4} R4 E4 C4 => by
          have k1 : H4 D = some (.lst vacc) := R4.old D _ hH0 notio
          have k2 := (Ri3.back (g' := g.blk scope (hold ρi (wipe σ vs) H3)) rfl rfl R4).wipe hio
          have k3 : wipe σ4 vs = wipe σ vs := by rw [wipe_chs C4 hts, wipe_wipe]
          rw [k3] at k2
          refine ⟨k1, k2, fun o => ?_, gs _ _ ((Ext.of_same sm).trans E4) g2, E2.trans ((Ext.of_same sm).trans E4)⟩
          rw [← k3] at o
          obtain ⟨j, d', o1, o2⟩ := own_wipe o
          rcases R4.new j d' D o1 o2 with z | z
          · have z : hold ρi (wipe σ vs) H3 D = none := z
            rw [hH0] at z; cases z
          · exact notio _ z rfl
        refine hg (H0 := hold ρi (wipe σ vs) H3) ⟨ρi, d, Rb, imd, ?_⟩
        rw [h2]
        intro σ4 H4 C4 E4 R4
        refine ⟨by rw [wipe_chs C4 hts, wipe_wipe], ht (H0 := hold ρi (wipe σ vs) H3) ⟨ρ2, R4, ?_⟩⟩
        rw [h3]
        intro H5 E5 R5
        obtain ⟨b, ρ5⟩ := p
        cases b with
        | false =>
          obtain ⟨k1, k2, k3, k4, k5⟩ := fin R5 (E4.trans E5) C4
          refine iteF ⟨k4, k5, _, acc, vacc, k2, k3, k1, ImmL.ext ((Ext.of_same sm).trans (E4.trans E5)) _ _ im, hl4⟩
        | true =>
          obtain ⟨r, h6, hl5⟩ := bind_is hl4
          refine iteT (he (H0 := hold ρi (wipe σ vs) H3) ⟨ρ5, R5, ?_⟩)
          have h6' : eF (g.blk scope (hold ρi (wipe σ vs) H3)).ios fe ρ5 = .ok r := h6
          rw [h6']
          intro H6 E6 R6 v6 im6
          obtain ⟨k1, k2, k3, k4, k5⟩ := fin R6 ((E4.trans E5).trans E6) C4
          split at hl5
          case isFalse => cases hl5
          rename_i hlen
          have im' := ImmL.ext ((Ext.of_same sm).trans ((E4.trans E5).trans E6)) _ _ im
          refine ⟨vacc, k1, by rw [im.len, sizeLine_eq]; exact hlen, ?_⟩
          have x7 : Ext H6 (upd H6 D (.lst (vacc ++ [v6]))) := fun b ob hb => by
            by_cases hba : b = D
            · subst hba
              rw [k1] at hb; cases hb
              exact ⟨fun xs e => (by cases e), fun _ _ e => (by cases e)⟩
            · exact ⟨fun _ _ => by rw [upd_ne hba]; exact hb, fun _ _ _ => by rw [upd_ne hba]; exact hb⟩
          have h0D : g.H0 D = none := not_old R1 hD
          refine ⟨gs _ _ x7 k4, k5.trans x7, _, acc ++ [r.1], vacc ++ [v6], k2.but (a := D) x7 (fun b ob hb hh => by rw [upd_ne hb]; exact hh) k3 h0D, k3, upd_same, (ImmL.ext x7 _ _ im').snoc (Imm.ext x7 _ _ im6), hl5⟩
      · obtain ⟨g2, E2, ρi, acc, vacc, Ri, no, hDi, im, hl2⟩ := h
        rw [List.drop_length] at hl2
        cases hl2
        have R9 := R1.unwipe Ri E2 hio
        exact q H2 (E1.trans E2) R9 _ ⟨D, rfl, ⟨vacc, hDi, im⟩, fun o => no (own_unwipe o), not_old R1 hD⟩
theorem e_lc {scope : Scope} {own : List (Str × Nat)} {ts vs : List Nat} {fi : Ix} {ft : Gx} {tt : Tx} {fe : Ex} (nd : g.N.Nodup) (ok : blkC g.N g.sc scope own = true) (hvs : own.map (·.2) = vs) (hts : (ts.all fun i => vs.contains i) = true) (hi : IOk g tg iter fi)
    (hg : ∀ H0, GOk (g.blk scope H0) tg ts ft) (ht : ∀ H0, TsOk (g.blk scope H0) ifs tt) (he : ∀ H0, EOk (g.blk scope H0) elt fe) (hs : ∀ env x, foldedSetIterable iter env x = pure x := by intro _ _; rfl) :
    EOk g (.ListComp elt [⟨tg, iter, ifs, 0⟩] scope pos) (eLc g.ios vs fi ft tt fe) := fun X W A tk => by
  subst hvs
  have hts' : ∀ i ∈ ts, i ∈ own.map (·.2) := fun i hi => by simpa using List.all_eq_true.mp hts i hi
  have key := pe_lc (g := fun v σ H Q => ∃ H0, tGx X.K (g.blk scope H0) ts ft v σ H Q) (tt := fun σ H Q => ∃ H0, tT X.K (g.blk scope H0) tt (fun _ _ _ _ => False) σ H Q) (te := fun σ H Q => ∃ H0, tF X.K (g.blk scope H0) fe (fun _ _ _ _ => False) σ H Q)
    (own := own) (scope := scope) (pos := pos) A.calm (by rw [A.N]; exact nd) (hi X W A tk) (by rw [A.N, A.sc]; exact blkOk_by ok)
    (fun s H C cl fp => ⟨fun pins s σ H v u Q I r ⟨H0, q⟩ => ((hg H0) _ A.blk).run pins s σ H v u Q I r q⟩)
    (fun s H C cl fp => ⟨fun pins s σ H Q I ⟨H0, q⟩ => ((ht H0) _ _ A.blk takes0).run pins s σ H Q I q⟩)
    (fun s H C cl fp => ⟨fun pins s σ H Q I ⟨H0, q⟩ => ((he H0).f A.blk takes0).run pins s σ H Q I q⟩) (hs _)
  exact PE.imp key fun σ H Q t => read_lc (scope := scope) (own := own) A hts' (fun {v σ2 H2 Q H0} h => ⟨H0, h⟩) (fun {σ2 H2 Q H0} h => ⟨H0, h⟩) (fun {σ2 H2 Q H0} h => ⟨H0, h⟩) t
/-- y = [..] on one line -/
theorem s_lc {x : Str} {i : Nat} {py spos : Pos} {scope : Scope} {own : List (Str × Nat)} {ts vs : List Nat} {fi : Ix} {ft : Gx} {tt : Tx} {fe : Ex} (sl : Slot g x i) (hloc : g.sc.names.lookup x = some .local) (hline : (py.line == pos.line) = true) (hown : (scope.names.any fun (n, k) => n == x && (k == .local || k == .cell)) = false)
    (hkind : g.sc.kind = .function) (ok : blkC g.N g.sc scope own = true) (hvs : own.map (·.2) = vs) (hts : (ts.all fun i => vs.contains i) = true) (hi : IOk g tg iter fi)
    (hg : ∀ H0, GOk (g.blk scope H0) tg ts ft) (ht : ∀ H0, TsOk (g.blk scope H0) ifs tt) (he : ∀ H0, EOk (g.blk scope H0) elt fe) (hs : ∀ env x, foldedSetIterable iter env x = pure x := by intro _ _; rfl) :
    SOk g (.Assign [.Name x py] (.ListComp elt [⟨tg, iter, ifs, 0⟩] scope pos) spos) (sSet g.ios i (eLc g.ios vs fi ft tt fe)) := fun X W A tk => by
  subst hvs
  have hts' : ∀ i ∈ ts, i ∈ own.map (·.2) := fun i hi => by simpa using List.all_eq_true.mp hts i hi
  have key := ps_setLc (i := i) (y := x) (py := py) (spos := spos) (g := fun v σ H Q => ∃ H0, tGx X.K (g.blk scope H0) ts ft v σ H Q) (tt := fun σ H Q => ∃ H0, tT X.K (g.blk scope H0) tt (fun _ _ _ _ => False) σ H Q) (te := fun σ H Q => ∃ H0, tF X.K (g.blk scope H0) fe (fun _ _ _ _ => False) σ H Q)
    (own := own) (scope := scope) (pos := pos) A.calm (by rw [A.N]; exact sl.nd) (by rw [A.N]; exact sl.ix) (by rw [A.sc]; exact hloc) (sw_true (by rw [A.sc]; exact hkind) (by rw [A.sc]; exact hloc) hline hown) (hi X W A.toAt tk) (by rw [A.N, A.sc]; exact blkOk_by ok)
    (fun s H C cl fp => ⟨fun pins s σ H v u Q I r ⟨H0, q⟩ => ((hg H0) _ A.toAt.blk).run pins s σ H v u Q I r q⟩)
    (fun s H C cl fp => ⟨fun pins s σ H Q I ⟨H0, q⟩ => ((ht H0) _ _ A.toAt.blk takes0).run pins s σ H Q I q⟩)
    (fun s H C cl fp => ⟨fun pins s σ H Q I ⟨H0, q⟩ => ((he H0).f A.toAt.blk takes0).run pins s σ H Q I q⟩) (hs _)
  refine PS.imp key fun D σ H ⟨ρ, R, q⟩ => ?_
  refine read_lc (scope := scope) (own := own) (W := W) A.toAt hts' (fun {v σ2 H2 Q H0} h => ⟨H0, h⟩) (fun {σ2 H2 Q H0} h => ⟨H0, h⟩) (fun {σ2 H2 Q H0} h => ⟨H0, h⟩) ⟨ρ, R, ?_⟩
  unfold sSet eBd at q
  cases hf : eLc g.ios (own.map (·.2)) fi ft tt fe ρ with
  | stuck => rw [hf] at q; exact q.elim
  | exc c ρ1 => rw [hf] at q; exact fun cls H' R' x m => q cls σ H' x R' m
  | ok p =>
    obtain ⟨s, ρ1⟩ := p
    rw [hf] at q
    have hso : ∃ d, s = .o d := by
      unfold eLc at hf
      obtain ⟨p1, _, h2⟩ := bind_is hf
      split at h2
      · obtain ⟨p3, _, h4⟩ := bind_is h2
        cases h4
        exact ⟨_, rfl⟩
      · cases h2
    obtain ⟨d, rfl⟩ := hso
    intro H1 E1 R1 x sr
    have q : PsS X.K g H W D (if i ∈ g.ios then .stuck else .ok (.next (ρ1.set i (some (.o d))))) := q
    split at q
    · exact q.elim
    · rename_i hio
      exact q _ H1 E1 (R1.set (s := .o d) sr hio)
end
end PL

namespace PL
open PySem PySem.Spec PyProof.Rows L2
/-! ### defs -/
abbrev Fn := List D → Out S
def spF (K : PySem.W.Frag) (mg : Str → Option Value) (n : Nat) (F : Fn) : Sp := fun vs H Q E => ∃ ds : List D, ds.length = n ∧ ImmL K H ds vs ∧ (match F ds with
  | .ok s => ∀ H' x, Same H H' → RS K H H' s x → Q x H'
  | .exc c _ => ∀ cls H', Same H H' → mg c = some cls → E cls none H'
  | .stuck => False)
def rhoV (m : Nat) (ds : List D) : Rho := ds.map (fun d => some (.v d)) ++ List.replicate m none
def endF : Fl → Out S
  | .ret s _ => .ok s
  | .next _ => .ok (.v .non)
  | _ => .stuck
def runF (m : Nat) (f : Sx) : Fn := fun ds => f (rhoV m ds) >>= endF
theorem immL_all {K : PySem.W.Frag} {H : Hp} {ds : List D} {vs : List V} (h : ImmL K H ds vs) {m : Nat} (i : Nat) (d : D) (e : (rhoV m ds)[i]? = some (some (.v d))) : ∃ x, vs[i]? = some x ∧ Imm K H d x := by
  unfold rhoV at e
  rcases Nat.lt_or_ge i ds.length with hi | hi
  · rw [List.getElem?_append_left (by simpa using hi)] at e
    rw [List.getElem?_map] at e
    cases hd : ds[i]? with
    | none => rw [hd] at e; cases e
    | some d' => rw [hd] at e; cases e; exact h.get' hd
  · rw [List.getElem?_append_right (by simpa using hi)] at e
    rw [List.getElem?_replicate] at e
    split at e <;> cases e
theorem rhoV_v {m : Nat} {ds : List D} {i : Nat} {s : S} (e : (rhoV m ds)[i]? = some (some s)) : ∃ d, s = .v d := by
  unfold rhoV at e
  rcases Nat.lt_or_ge i ds.length with hi | hi
  · rw [List.getElem?_append_left (by simpa using hi)] at e
    rw [List.getElem?_map] at e
    cases hd : ds[i]? with
    | none => rw [hd] at e; cases e
    | some d' => rw [hd] at e; cases e; exact ⟨_, rfl⟩
  · rw [List.getElem?_append_right (by simpa using hi)] at e
    rw [List.getElem?_replicate] at e
    split at e <;> cases e
theorem start_er {K : PySem.W.Frag} {g : Cf} {H : Hp} {ds : List D} {vs : List V} {n m : Nat} (h : ImmL K H ds vs) (hl : ds.length = n) (hm : g.N.length = n + m) (h0 : g.H0 = H) (hio : g.io = []) : ER K g (rhoV m ds) (L2.start g.N vs) H where
  len := by simp only [rhoV, L2.start, List.length_append, List.length_map, List.length_replicate, h.len, hl, hm]; omega
  val := fun i d e => by
    obtain ⟨x, h1, h2⟩ := immL_all h i d e
    refine ⟨x, ?_, h2⟩
    unfold L2.start
    have hi : i < vs.length := by
      rcases Nat.lt_or_ge i vs.length with z | z
      · exact z
      · rw [List.getElem?_eq_none z] at h1; cases h1
    rw [List.getElem?_append_left (by simpa using hi), List.getElem?_map, h1]; rfl
  own := fun i d e => by obtain ⟨d', z⟩ := rhoV_v e; cases z
  bor := fun i j e => by obtain ⟨d', z⟩ := rhoV_v e; cases z
  sep := fun i j d d' a e => by obtain ⟨d', z⟩ := rhoV_v e; cases z
  old := fun a o h _ => by rw [← h0]; exact h
  new := fun i d a e => by obtain ⟨d', z⟩ := rhoV_v e; cases z
  io := fun p hp => by rw [hio] at hp; cases hp
theorem br_rs {K : PySem.W.Frag} {g : Cf} {H H' : Hp} {s : S} {x : V} (h0 : g.H0 = H) (b : BR K g [] [] H' s x) : RS K H H' s x := by
  cases s with
  | v d => exact b
  | o d => obtain ⟨a, h1, h2, _, h4⟩ := b; exact ⟨a, h1, by rw [← h0]; exact h4, h2⟩
  | b i => exact b.elim
/-- a def by its body -/
theorem fn_ok {P : Program} {w : World} {K : PySem.W.Frag} {mg : Str → Option Value} {base : Heap} {x qual : Str} {st : Stmt} {fa : Addr} {fd : FuncData} {N ps : List Str} {k n m : Nat} {f : Sx} (F : L2.Fun K x qual st fa fd) (S : FnScope N ps (defScope st)) (hn : ps.length = n) (hm : N.length = n + m)
    (hb : ∀ H0, SsOk ⟨P, w, K, mg, base, N, defScope st, fun _ => true, k, H0, []⟩ (defBody st) f) : FnOk P w K mg base (L2.CX P w) (k + 1) fa fd ps (spF K mg n (runF m f)) := by
  refine F.okX S (fun vs H Q E ⟨ds, h1, h2, _⟩ => by rw [h2.len, h1, hn]) (fun cdv A outer s H vs Q E hr ⟨ds, h1, h2, h3⟩ => ?_)
  have AA : AtS ⟨P, w, K, mg, base, N, defScope st, fun _ => true, k, H, []⟩ (cxOf (L2.CX P w) P w K mg base N qual (defScope st) fa cdv A outer s H E) :=
    { prog := rfl, w := rfl, K := rfl, mg := rfl, base := rfl, N := rfl, sc := rfl, fn := fun _ _ => rfl, room := hr, calm := rfl, own := passes_of rfl, stk := rfl, fr := rfl }
  refine ⟨_, hb H _ (fun cls d _ H' => E cls d H') AA (takes_of rfl rfl rfl rfl), ⟨rhoV m ds, start_er h2 h1 hm rfl rfl, ?_⟩⟩
  have same : ∀ {ρ' σ' H'}, ER K ⟨P, w, K, mg, base, N, defScope st, fun _ => true, k, H, []⟩ ρ' σ' H' → Same H H' := fun {ρ' σ' H'} R a o e => R.old a o e (fun p hp => by cases hp)
  unfold runF at h3
  cases hf : f (rhoV m ds) with
  | stuck => rw [hf] at h3; exact h3.elim
  | exc c ρ1 => rw [hf] at h3; exact fun cls σ' H' _ R hm => h3 cls H' (same R) hm
  | ok r =>
    rw [hf] at h3
    cases r with
    | next ρ' => exact fun σ' H' _ R => h3 H' .non (same R) rfl
    | ret z ρ' => exact fun σ' H' y _ R b => h3 H' y (same R) (br_rs rfl b)
    | brk ρ' => exact h3.elim
    | cnt ρ' => exact h3.elim
/-- a def that may be called by its name -/
structure Cal (g : Cf) (x : Str) (n : Nat) (F : Fn) : Prop where
  ex : ∃ (f : Addr) (fd : FuncData) (ps : List Str), FnOk g.prog g.w g.K g.mg g.base (L2.CX g.prog g.w) g.k f fd ps (spF g.K g.mg n F) ∧ g.mg x = some (.ref f) ∧ PySem.W.keepIn g.K (.ref f) = true ∧ Binds g.K fd ps []
def atR (ρ : Rho) : Out S → Out (S × Rho)
  | .ok s => .ok (s, ρ)
  | .exc c _ => .exc c ρ
  | .stuck => .stuck
def eCall (l : List Nat) (n : Nat) (F : Fn) (fa : Ax) : Ex := fun ρ => aF l fa ρ >>= fun p => if p.1.length = n then atR p.2 (F p.1) else .stuck
section
variable {g : Cf} {X : Cx} {e a b c : Expr} {es : List Expr} {pos : Pos} {K : PySem.W.Frag} {W : WX}
theorem e_call {x : Str} {p : Pos} {n : Nat} {F : Fn} {fa : Ax} (hc : Cal g x n F) (ha : AOk g (e :: es) fa) (hg : Glo g x := by rfl) (hdb : (x == ("__debug__" : Str)) = false := by decide)
    (he : ∀ env, starEach (e :: es) env = (false, eval e env) :: starEach es env := by intro _; rfl) (hpl : ∀ env, (backTo pos (starEach es env)).any (·.1) = false := by intro _; rfl) : EOk g (.Call (.Name x p) (e :: es) [] pos) (eCall g.ios n F fa) := fun X W A tk => by
  obtain ⟨f, fd, ps, h1, h2, h3, h4⟩ := hc.ex
  have h1' : FnOk X.prog X.w X.K X.mg X.base (L2.CX X.prog X.w) g.k f fd ps (spF X.K X.mg n F) := by rw [A.prog, A.w, A.K, A.mg, A.base]; exact h1
  refine PE.imp (pe_callS h1' A.room (hg.gl A) (by rw [A.mg]; exact h2) (by rw [A.K]; exact h3) (by rw [A.K]; exact h4) (fun σ => passAt tk σ) (ha.f A tk) hdb (he _) (hpl _)) fun σ H Q ⟨ρ, R, q⟩ => ?_
  refine tAF_step R q fun ds ρ1 vs H1 R1 E1 im q1 => ?_
  split at q1
  case isFalse => exact q1.elim
  rename_i hl
  refine ⟨ds, hl, im, ?_⟩
  cases hF : F ds with
  | stuck => rw [hF] at q1; exact q1.elim
  | exc c ρ' => rw [hF] at q1; exact fun cls H' sm hm => q1 cls H' (R1.same sm) (Ext.of_same sm) (by rw [← A.mg]; exact hm)
  | ok s => rw [hF] at q1; exact fun H' y sm rs => q1 H' (Ext.of_same sm) (R1.same sm) y (rs.sr R1)
/-! ### raise -/
/-- an exception class of the program's own -/
structure Exc (g : Cf) (c : Str) : Prop where
  ex : ∃ C : Addr, PySem.W.excIn g.K C [.type "ValueError", .type "Exception", .type "BaseException", .type "object"] "ValueError.__new__" = true ∧ g.mg c = some (.ref C) ∧ PySem.W.keepIn g.K (.ref C) = true ∧ PySem.W.subIn g.K (.ref C) (.type "BaseException") = some true ∧ PySem.W.typeIn g.K (.ref C) = some (.type "type")
def sRaise (c : Str) : Sx := fun ρ => .exc c ρ
theorem s_raise {x m : Str} {j : Nat} {p p2 p3 : Pos} (h : Exc g x) (hg : Glo g x := by rfl) (hdb : (x == ("__debug__" : Str)) = false := by decide) : SOk g (.Raise (some (.Call (.Name x p) [.Constant (.str m) j p2] [] p3)) none pos) (sRaise x) := fun X W A tk => by
  obtain ⟨C, h1, h2, h3, h4, h5⟩ := h.ex
  rw [← A.K] at h1 h3 h4 h5
  refine PS.imp (ps_raise A.calm tk (pmk_own PySem.F.excBase_ValueError h1 (by rw [A.mg]; exact h2) h3 (raises_own h4 h5) (hg.gl A.toAt) hdb)) fun D σ H ⟨ρ, R, q⟩ => ?_
  exact q _ σ H (Ext.refl H) R h2
/-! ### try -/
/-- the class x in an except clause: which classes it catches -/
structure Cat (g : Cf) (x : Str) (tab : List (Str × Bool)) : Prop where
  ex : ∃ cv : Value, ((x == ("__debug__" : Str)) = false ∧ (g.mg x = some cv ∨ (g.mg x = none ∧ bootBuiltins x = some cv ∧ x ≠ "__name__"))) ∧ ∀ c b, (c, b) ∈ tab → ∃ C, g.mg c = some (.ref C) ∧ PySem.W.exmOne g.K (.ref C) cv = some b
/-- isinstance(an exception, x): for which classes -/
structure IsE (g : Cf) (x : Str) (tab : List (Str × Bool)) : Prop where
  ex : ∃ (v : V) (cv : Value), RelV v cv ∧ (∀ u, RelV v u → u = cv) ∧ (x == ("__debug__" : Str)) = false ∧ (g.mg x = some cv ∨ (g.mg x = none ∧ bootBuiltins x = some cv ∧ x ≠ "__name__")) ∧ ∀ c b, (c, b) ∈ tab → ∃ C, g.mg c = some (.ref C) ∧ ExcC g.K C ∧ PySem.W.kitOne g.K (.ref C) cv = some b
abbrev Hx := Str → Option D
def look (tab : List (Str × Bool)) (c : Str) : Option Bool := (tab.find? fun p => p.1 = c).map (·.2)
theorem look_mem {tab : List (Str × Bool)} {c : Str} {b : Bool} (h : look tab c = some b) : (c, b) ∈ tab := by
  unfold look at h
  cases hf : tab.find? (fun p => p.1 = c) with
  | none => rw [hf] at h; cases h
  | some p =>
    rw [hf] at h
    cases h
    have h1 := List.find?_some hf
    have h2 := List.mem_of_find?_eq_some hf
    obtain ⟨p1, p2⟩ := p
    have h3 : p1 = c := by simpa using h1
    rw [← h3]
    exact h2
def HOk (g : Cf) (n : Str) (i : Nat) (e : Expr) (h : Hx) : Prop := ∀ (X : Cx), At g X → ∀ (a : Addr) (oe : Obj) (cls : Value) (pn : List (Addr × Obj)) (c : Str), Zc cls none oe → (∃ vs, oe.data = .fields vs) → g.mg c = some cls →
  PE (X.suite a ((a, oe) :: pn)) e (fun σ H Q => (n = "" ∨ σ[i]? = some (some (.ref a))) ∧ ∃ d, h c = some d ∧ ∀ x H', Same H H' → Imm X.K H' d x → Q x H')
def hC (d : D) : Hx := fun _ => some d
theorem h_bl {n : Str} {i : Nat} {k : Bool} {j : Nat} : HOk g n i (.Constant (.bool k) j pos) (hC (.bl k)) := fun X A a oe cls pn c hz hf hm => PE.imp pe_bl fun σ H Q ⟨_, d, h, q⟩ => by cases h; exact q _ H (Same.refl H) rfl
theorem h_str {n : Str} {i : Nat} {k : Str} {j : Nat} : HOk g n i (.Constant (.str k) j pos) (hC (.str k)) := fun X A a oe cls pn c hz hf hm => PE.imp pe_str fun σ H Q ⟨_, d, h, q⟩ => by cases h; exact q _ H (Same.refl H) rfl
theorem h_non {n : Str} {i : Nat} {j : Nat} : HOk g n i (.Constant .none j pos) (hC .non) := fun X A a oe cls pn c hz hf hm => PE.imp pe_non fun σ H Q ⟨_, d, h, q⟩ => by cases h; exact q _ H (Same.refl H) rfl
def hIs (tab : List (Str × Bool)) : Hx := fun c => (look tab c).map .bl
theorem h_isi {n x : Str} {i : Nat} {p p1 p2 : Pos} {tab : List (Str × Bool)} (h : IsE g x tab) (hN : g.N[i]? = some n) (hn : n ≠ "" := by decide) (hmi : g.mg "isinstance" = none) (hg : Glo g "isinstance" := by rfl) (hgx : Glo g x := by rfl) (hv : Vis g.sc n := by first | exact Or.inl rfl | exact Or.inr (Or.inl rfl) | exact Or.inr (Or.inr rfl)) (hd : (n == ("__debug__" : Str)) = false := by decide) (hcd : (n == ("__classdict__" : Str)) = false := by decide) :
    HOk g n i (.Call (.Name "isinstance" p) [.Name n p1, .Name x p2] [] pos) (hIs tab) := fun X A a oe cls pn c hz hf hm => by
  obtain ⟨v, cv, rv, ru, hdb, hx, ht⟩ := h.ex
  have hN' : (X.suite a ((a, oe) :: pn)).N[i]? = some n := by show X.N[i]? = _; rw [A.N]; exact hN
  have hv' : Vis (X.suite a ((a, oe) :: pn)).env.scope n := by show Vis X.env.scope n; unfold Vis; rw [A.sc]; exact hv
  have hGx : Gl X x := hgx.gl A
  have hGi : Gl X "isinstance" := hg.gl A
  have pn1 : PE (X.suite a ((a, oe) :: pn)) (.Name n p1) (tVar i) := pe_var hN' hv' hd hcd
  have px : PE (X.suite a ((a, oe) :: pn)) (.Name x p2) (tC v) := by
    rcases hx with hx | ⟨hx1, hx2, hx3⟩
    · exact pe_glob (X := X.suite a ((a, oe) :: pn)) hGx (by show X.mg x = _; rw [A.mg]; exact hx) rv hdb
    · exact pe_bltn (X := X.suite a ((a, oe) :: pn)) hGx (by show X.mg x = _; rw [A.mg]; exact hx1) hx2 rv hx3 hdb
  refine ⟨fun pins s σ H Q I ⟨hs, d, hh, q⟩ => ?_⟩
  unfold hIs at hh
  cases hl : look tab c with
  | none => rw [hl] at hh; cases hh
  | some b =>
    rw [hl] at hh
    cases hh
    obtain ⟨C, hm2, hE, hk⟩ := ht c b (look_mem hl)
    rw [hm] at hm2
    cases hm2
    have hE' : ExcC X.K C := by rw [A.K]; exact hE
    have hk' : PySem.W.kitOne X.K (.ref C) cv = some b := by rw [A.K]; exact hk
    refine (pe_callB (call_isE hE' hz hf) hGi (by show X.mg _ = _; rw [A.mg]; exact hmi) (by decide +kernel) (pa_cons pn1 (pa_cons px pa_nil)) (by decide) (by decide)).run pins s σ H Q I ?_
    refine ⟨.ref a, hs.resolve_left hn, v, cv, b, rfl, ru, hk', q _ H (Same.refl H) rfl⟩
def hAnd (h1 h2 : Hx) : Hx := fun c => match h1 c with
  | some (.bl true) => h2 c
  | some (.bl false) => some (.bl false)
  | _ => none
def hNot (h1 : Hx) : Hx := fun c => match h1 c with
  | some (.bl k) => some (.bl (!k))
  | _ => none
theorem h_one {n : Str} {i : Nat} {op : BoolOp} {h : Hx} (h1 : HOk g n i a h) : HOk g n i (.BoolOp op [a] pos) h := fun X A a oe cls pn c hz hf hm => pe_one (h1 X A a oe cls pn c hz hf hm)
theorem h_and {n : Str} {i : Nat} {rest : List Expr} {h h' : Hx} (h1 : HOk g n i a h) (h2 : HOk g n i (.BoolOp .And (b :: rest) pos) h') : HOk g n i (.BoolOp .And (a :: b :: rest) pos) (hAnd h h') := fun X A ad oe cls pn c hz hf hm => by
  refine PE.imp (pe_and (h1 X A ad oe cls pn c hz hf hm) (h2 X A ad oe cls pn c hz hf hm)) fun σ H Q ⟨hs, d, hh, q⟩ => ?_
  unfold hAnd at hh
  split at hh
  · rename_i k1
    refine ⟨hs, _, k1, fun x H' sm im => ⟨true, im, ?_⟩⟩
    exact iteT ⟨hs, d, hh, fun y H2 sm2 im2 => q y H2 (sm.trans sm2) im2⟩
  · rename_i k1
    cases hh
    exact ⟨hs, _, k1, fun x H' sm im => ⟨false, im, iteF (q _ H' sm rfl)⟩⟩
  · cases hh
theorem h_not {n : Str} {i : Nat} {h : Hx} (h1 : HOk g n i a h) : HOk g n i (.UnaryOp .Not a pos) (hNot h) := fun X A ad oe cls pn c hz hf hm => by
  refine PE.imp (pe_not (h1 X A ad oe cls pn c hz hf hm)) fun σ H Q ⟨hs, d, hh, q⟩ => ?_
  unfold hNot at hh
  split at hh
  · rename_i k k1
    cases hh
    exact ⟨hs, _, k1, fun x H' sm im => ⟨k, im, q _ H' sm rfl⟩⟩
  · cases hh
def sTry (need : Nat) (tab : List (Str × Bool)) (h : Hx) (f : Sx) : Sx := fun ρ => match f ρ with
  | .ok r => .ok r
  | .stuck => .stuck
  | .exc c ρ' => match look tab c with
    | some true => (match h c with
      | some d => if need ≤ ρ'.length then .ok (.ret (.v d) ρ') else .stuck
      | none => .stuck)
    | some false => .exc c ρ'
    | none => .stuck
theorem AtS.tr (A : AtS g X) {pn : List (Addr × Obj)} {xe : Value → Shared → Prop} (p : PassesOwn (model X.prog X.w) X.A X.env xe) : AtS g (X.tr pn xe) where
  prog := A.prog
  w := A.w
  K := A.K
  mg := A.mg
  base := A.base
  N := A.N
  sc := A.sc
  fn := A.fn
  room := A.room
  calm := A.calm
  own := p
  stk := A.stk
  fr := A.fr
/-- what the suite wishes -/
def tH (g : Cf) (K : PySem.W.Frag) (n : Str) (i : Nat) (h : Hx) (a : Addr) (cls : Value) (d : Option Addr) : TS := fun D σ H => d = none ∧ ∃ c dv, g.mg c = some cls ∧ (n = "" ∨ σ[i]? = some (some (.ref a))) ∧ h c = some dv ∧ ∀ x H', Same H H' → Imm K H' dv x → D.rt x H'
theorem suite_ok {n : Str} {i : Nat} {h : Hx} {p1 : Pos} (A : At g X) (hh : HOk g n i e h) (a : Addr) (oe : Obj) (cls : Value) (d : Option Addr) (pn : List (Addr × Obj)) (hz : Zc cls d oe) (hf : ∃ vs, oe.data = .fields vs) : PSs (X.suite a ((a, oe) :: pn)) [.Return (some e) p1] (tH g X.K n i h a cls d) := by
  refine pss_one ⟨fun pins s σ H D I ⟨hd, c, dv, hm, hs, hc, q⟩ => ?_⟩
  subst hd
  exact (ps_ret (hh X A a oe cls pn c hz hf hm)).run pins s σ H D I ⟨hs, dv, hc, q⟩
theorem try_read {need : Nat} {tab : List (Str × Bool)} {h : Hx} {f : Sx} {D : Ends} {σ : L2.St} {H : Hp} {W' : WX} (t : tS K g (sTry need tab h f) W D σ H)
    (hw : ∀ c ρ' cls σ' H', Ext H H' → ER K g ρ' σ' H' → g.mg c = some cls → ∀ b, look tab c = some b → (b = true → need ≤ ρ'.length ∧ ∃ d, h c = some d ∧ ∀ x H2, Same H' H2 → Imm K H2 d x → D.rt x H2) → (b = false → W cls none σ' H') → W' cls none σ' H') : tS K g f W' D σ H := by
  obtain ⟨ρ, R, q⟩ := t
  refine ⟨ρ, R, ?_⟩
  unfold sTry at q
  cases hf : f ρ with
  | stuck => rw [hf] at q; exact q.elim
  | ok r =>
    rw [hf] at q
    have q : PsS K g H W D (.ok r) := q
    cases r <;> exact q
  | exc c ρ' =>
    rw [hf] at q
    dsimp only at q
    intro cls σ' H' E' R' hm
    cases hl : look tab c with
    | none => rw [hl] at q; exact q.elim
    | some b =>
      rw [hl] at q
      refine hw c ρ' cls σ' H' E' R' hm b hl (fun hb => ?_) (fun hb => ?_)
      · subst hb
        dsimp only at q
        cases hc : h c with
        | none => rw [hc] at q; exact q.elim
        | some d =>
          rw [hc] at q
          dsimp only at q
          split at q
          case isFalse => exact q.elim
          rename_i hlen
          exact ⟨hlen, d, rfl, fun x H2 sm im => q σ' H2 x (E'.trans (Ext.of_same sm)) (R'.same sm) im⟩
      · subst hb
        exact q cls σ' H' E' R' hm
theorem s_try {body : List Stmt} {x n : Str} {i : Nat} {np p1 pos' : Pos} {tab : List (Str × Bool)} {h : Hx} {f : Sx} (hx : Cat g x tab) (hb : SsOk g body f) (hh : HOk g n i e h) (hN : g.N[i]? = some n) (nd : g.N.Nodup) (hloc : g.sc.names.lookup n = some .local) (hgx : Glo g x := by rfl) :
    SOk g (.Try body [.ExceptHandler (some (.Name x np)) (some n) [.Return (some e) p1] pos'] [] [] pos) (sTry (i + 1) tab h f) := fun X W A tk => by
  obtain ⟨cv, ⟨hdb, hx1⟩, ht⟩ := hx.ex
  have hi : X.N[i]? = some n := by rw [A.N]; exact hN
  have key := ps_try_as (pos := pos) (pos' := pos') (np := np) (x := x) (c := cv) (body := body) (tb := fun W => tS X.K g f W) (ts := tH g X.K n i h) A.stk A.fr (by rw [A.N]; exact nd) hi (by show X.env.scope.names.lookup n = _; rw [A.sc]; exact hloc) ⟨hgx.gl A.toAt, hdb, by rw [A.mg]; exact hx1⟩ tk
    (fun W pn xe tk' p => hb _ W (A.tr p) tk') (fun a oe cls d pn hz hf => suite_ok (p1 := p1) A.toAt hh a oe cls d pn hz hf)
  refine ⟨fun pins s σ H D I t => ?_⟩
  refine key.run pins s σ H D I (try_read t fun c ρ' cls σ' H' E' R' hm b hl hy hn => ?_)
  obtain ⟨C, hm2, hk⟩ := ht c b (look_mem hl)
  rw [hm] at hm2
  cases hm2
  refine ⟨b, by rw [A.K]; exact hk, fun hb a ha => ?_, hn⟩
  obtain ⟨hlen, d, hd, q⟩ := hy hb
  refine ⟨rfl, c, d, hm, .inr ?_, hd, q⟩
  exact List.getElem?_set_self (by rw [← R'.len]; omega)
theorem s_tryN {body : List Stmt} {x : Str} {np p1 pos' : Pos} {tab : List (Str × Bool)} {h : Hx} {f : Sx} (hx : Cat g x tab) (hb : SsOk g body f) (hh : HOk g "" 0 e h) (hgx : Glo g x := by rfl) :
    SOk g (.Try body [.ExceptHandler (some (.Name x np)) none [.Return (some e) p1] pos'] [] [] pos) (sTry 0 tab h f) := fun X W A tk => by
  obtain ⟨cv, ⟨hdb, hx1⟩, ht⟩ := hx.ex
  have key := ps_try_only (pos := pos) (pos' := pos') (np := np) (x := x) (c := cv) (body := body) (tb := fun W => tS X.K g f W) (ts := tH g X.K "" 0 h) A.stk A.fr ⟨hgx.gl A.toAt, hdb, by rw [A.mg]; exact hx1⟩ tk
    (fun W pn xe tk' p => hb _ W (A.tr p) tk') (fun a oe cls d pn hz hf => suite_ok (p1 := p1) A.toAt hh a oe cls d pn hz hf)
  refine PS.imp key fun D σ H t => try_read t fun c ρ' cls σ' H' E' R' hm b hl hy hn => ?_
  obtain ⟨C, hm2, hk⟩ := ht c b (look_mem hl)
  rw [hm] at hm2
  cases hm2
  refine ⟨b, by rw [A.K]; exact hk, fun hb a ha => ?_, hn⟩
  obtain ⟨hlen, d, hd, q⟩ := hy hb
  exact ⟨rfl, c, d, hm, .inl rfl, hd, q⟩
end
end PL
namespace PL
open PySem PySem.Spec PyProof.Rows L2
/-- a def, apart from a body's configuration -/
structure Cal0 (P : Program) (w : World) (K : PySem.W.Frag) (mg : Str → Option Value) (base : Heap) (k : Nat) (x : Str) (n : Nat) (F : Fn) : Prop where
  ex : ∃ (f : Addr) (fd : FuncData) (ps : List Str), FnOk P w K mg base (L2.CX P w) k f fd ps (spF K mg n F) ∧ mg x = some (.ref f) ∧ PySem.W.keepIn K (.ref f) = true ∧ Binds K fd ps []
theorem Cal0.cal {P : Program} {w : World} {K : PySem.W.Frag} {mg : Str → Option Value} {base : Heap} {j k : Nat} {x : Str} {n : Nat} {F : Fn} (h : Cal0 P w K mg base j x n F) (hk : j ≤ k) {N : List Str} {sc : Scope} {fn : Str → Bool} {H0 : Hp} {io : List (Nat × Addr)} : Cal ⟨P, w, K, mg, base, N, sc, fn, k, H0, io⟩ x n F := by
  obtain ⟨f, fd, ps, h1, h2⟩ := h.ex
  exact ⟨f, fd, ps, h1.mono hk, h2⟩
/-- what the written part says of a def -/
def FnT (K : PySem.W.Frag) (mg : Str → Option Value) (x : Str) (st : Stmt) (ps : List Str) : Prop := ∃ (f : Addr) (fd : FuncData), mg x = some (.ref f) ∧ L2.Fun K x x st f fd ∧ PySem.W.keepIn K (.ref f) = true ∧ Binds K fd ps []
theorem Cal0.of {P : Program} {w : World} {K : PySem.W.Frag} {mg : Str → Option Value} {base : Heap} {k : Nat} {x : Str} {n m : Nat} {f : Sx} {st : Stmt} {N ps : List Str} (T : FnT K mg x st ps) (S : FnScope N ps (defScope st)) (hn : ps.length = n) (hm : N.length = n + m)
    (hb : ∀ H0, SsOk ⟨P, w, K, mg, base, N, defScope st, fun _ => true, k, H0, []⟩ (defBody st) f) : Cal0 P w K mg base (k + 1) x n (runF m f) := by
  obtain ⟨fa, fd, h1, h2, h3, h4⟩ := T
  exact ⟨fa, fd, ps, fn_ok h2 S hn hm hb, h1, h3, h4⟩
theorem FnT.mk' {K : PySem.W.Frag} {h : Heap} {mg : Str → Option Value} {x : Str} {st : Stmt} {ps : List Str} (X : K.In h) (G : h.Ns mainGlobals mg) {f : Addr} {oc : Value} {od an : Option Addr} {osl : Array (Option Value)} {kV doc pm cdv ct : Value}
    (a : PySem.W.nsIn K mainGlobals x = some (some (.ref f))) (l : K.lookup f = some ⟨oc, od, .func (PySem.W.fnOf x x (defArgs st) (defBody st) (defScope st) .none kV doc pm an cdv ct), osl⟩) (c : PySem.W.codeIn K cdv x = true) (k : PySem.W.keepIn K (.ref f) = true)
    (b : ∀ (kV doc pm : Value) (an : Option Addr) (cdv ct : Value) (us : List Value), us.length = ps.length → bindArgs (PySem.W.fnOf x x (defArgs st) (defBody st) (defScope st) .none kV doc pm an cdv ct) ⟨us, []⟩ = pure (ps.zip us)) : FnT K mg x st ps :=
  ⟨f, _, PySem.W.mg_of X G a, fun_mk l c k, k, (fun_mk l c k).binds b⟩
/-- raw facts, apart from a body's configuration -/
def Con0 (K : PySem.W.Frag) (mg : Str → Option Value) (x : Str) (d : D) : Prop := ∃ u v, mg x = some u ∧ RelV v u ∧ ∀ H, Imm K H d v
def Exc0 (K : PySem.W.Frag) (mg : Str → Option Value) (c : Str) : Prop := ∃ C : Addr, PySem.W.excIn K C [.type "ValueError", .type "Exception", .type "BaseException", .type "object"] "ValueError.__new__" = true ∧ mg c = some (.ref C) ∧ PySem.W.keepIn K (.ref C) = true ∧ PySem.W.subIn K (.ref C) (.type "BaseException") = some true ∧ PySem.W.typeIn K (.ref C) = some (.type "type")
def Cat0 (K : PySem.W.Frag) (mg : Str → Option Value) (x : Str) (tab : List (Str × Bool)) : Prop := ∃ cv : Value, ((x == ("__debug__" : Str)) = false ∧ (mg x = some cv ∨ (mg x = none ∧ bootBuiltins x = some cv ∧ x ≠ "__name__"))) ∧ ∀ c b, (c, b) ∈ tab → ∃ C, mg c = some (.ref C) ∧ PySem.W.exmOne K (.ref C) cv = some b
def IsE0 (K : PySem.W.Frag) (mg : Str → Option Value) (x : Str) (tab : List (Str × Bool)) : Prop := ∃ (v : V) (cv : Value), RelV v cv ∧ (∀ u, RelV v u → u = cv) ∧ (x == ("__debug__" : Str)) = false ∧ (mg x = some cv ∨ (mg x = none ∧ bootBuiltins x = some cv ∧ x ≠ "__name__")) ∧ ∀ c b, (c, b) ∈ tab → ∃ C, mg c = some (.ref C) ∧ ExcC K C ∧ PySem.W.kitOne K (.ref C) cv = some b
section
variable {K : PySem.W.Frag} {h : Heap} {mg : Str → Option Value} {x : Str}
theorem Con0.int (X : K.In h) (G : h.Ns mainGlobals mg) {i : Int} {t : Tok} (a : PySem.W.nsIn K mainGlobals x = some (some (.int i t))) : Con0 K mg x (.int i) := ⟨_, .int i, PySem.W.mg_of X G a, ⟨t, rfl⟩, fun _ => rfl⟩
theorem Con0.str (X : K.In h) (G : h.Ns mainGlobals mg) {i : Str} {t : Tok} (a : PySem.W.nsIn K mainGlobals x = some (some (.str i t))) : Con0 K mg x (.str i) := ⟨_, .str i, PySem.W.mg_of X G a, ⟨t, rfl⟩, fun _ => rfl⟩
theorem Con0.bl (X : K.In h) (G : h.Ns mainGlobals mg) {i : Bool} (a : PySem.W.nsIn K mainGlobals x = some (some (.bool i))) : Con0 K mg x (.bl i) := ⟨_, .bl i, PySem.W.mg_of X G a, rfl, fun _ => rfl⟩
theorem Exc0.mk' (X : K.In h) (G : h.Ns mainGlobals mg) {C : Addr} (a : PySem.W.nsIn K mainGlobals x = some (some (.ref C))) (e : PySem.W.excIn K C [.type "ValueError", .type "Exception", .type "BaseException", .type "object"] "ValueError.__new__" = true) (k : PySem.W.keepIn K (.ref C) = true)
    (s : PySem.W.subIn K (.ref C) (.type "BaseException") = some true) (t : PySem.W.typeIn K (.ref C) = some (.type "type")) : Exc0 K mg x := ⟨C, e, PySem.W.mg_of X G a, k, s, t⟩
theorem Cat0.nil (X : K.In h) (G : h.Ns mainGlobals mg) {C : Addr} (a : PySem.W.nsIn K mainGlobals x = some (some (.ref C))) (hd : (x == ("__debug__" : Str)) = false := by decide) : Cat0 K mg x [] := ⟨_, ⟨hd, .inl (PySem.W.mg_of X G a)⟩, fun _ _ h => by cases h⟩
theorem Cat0.cons (X : K.In h) (G : h.Ns mainGlobals mg) {C D : Addr} {c : Str} {b : Bool} {tab : List (Str × Bool)} (aC : PySem.W.nsIn K mainGlobals x = some (some (.ref C))) (aD : PySem.W.nsIn K mainGlobals c = some (some (.ref D)))
    (h1 : PySem.W.subIn K (.ref C) (.type "BaseException") = some true) (h2 : PySem.W.hasDictIn K C = true) (h3 : PySem.W.typeIn K (.ref C) = some (.type "type")) (h4 : PySem.W.subIn K (.ref D) (.ref C) = some b) (r : Cat0 K mg x tab) : Cat0 K mg x ((c, b) :: tab) := by
  obtain ⟨cv, ⟨r1, r2⟩, r3⟩ := r
  have hx := PySem.W.mg_of X G aC
  have ecv : cv = .ref C := by
    rcases r2 with r2 | ⟨r2, _⟩
    · rw [hx] at r2; exact (Option.some.inj r2).symm
    · rw [hx] at r2; cases r2
  subst ecv
  refine ⟨_, ⟨r1, .inl hx⟩, fun c' b' hm => ?_⟩
  rcases List.mem_cons.mp hm with e | hm
  · cases e
    exact ⟨D, PySem.W.mg_of X G aD, PySem.W.exm_ref h1 h2 h3 h4⟩
  · exact r3 c' b' hm
theorem IsE0.nil (X : K.In h) (G : h.Ns mainGlobals mg) {C : Addr} (a : PySem.W.nsIn K mainGlobals x = some (some (.ref C))) (hd : (x == ("__debug__" : Str)) = false := by decide) : IsE0 K mg x [] := ⟨.ref C, .ref C, rfl, fun _ r => r, hd, .inl (PySem.W.mg_of X G a), fun _ _ h => by cases h⟩
theorem IsE0.nilB (X : K.In h) (G : h.Ns mainGlobals mg) {t : String} (a : PySem.W.nsIn K mainGlobals x = some none) (hb : bootBuiltins x = some (.type t)) (hn : x ≠ "__name__" := by decide) (hd : (x == ("__debug__" : Str)) = false := by decide) : IsE0 K mg x [] := ⟨.ty t, .type t, rfl, fun _ r => r, hd, .inr ⟨PySem.W.mg_none_of X G a, hb, hn⟩, fun _ _ h => by cases h⟩
theorem IsE0.cons (X : K.In h) (G : h.Ns mainGlobals mg) {C D : Addr} {c : Str} {b : Bool} {tab : List (Str × Bool)} (aC : PySem.W.nsIn K mainGlobals x = some (some (.ref C))) (aD : PySem.W.nsIn K mainGlobals c = some (some (.ref D)))
    (e : ExcC K D) (h4 : PySem.W.kitOne K (.ref D) (.ref C) = some b) (r : IsE0 K mg x tab) : IsE0 K mg x ((c, b) :: tab) := by
  obtain ⟨v, cv, r1, r2, r3, r4, r5⟩ := r
  have hx := PySem.W.mg_of X G aC
  have ecv : cv = .ref C := by
    rcases r4 with r4 | ⟨r4, _⟩
    · rw [hx] at r4; exact (Option.some.inj r4).symm
    · rw [hx] at r4; cases r4
  subst ecv
  refine ⟨v, _, r1, r2, r3, .inl hx, fun c' b' hm => ?_⟩
  rcases List.mem_cons.mp hm with e' | hm
  · cases e'
    exact ⟨D, PySem.W.mg_of X G aD, e, h4⟩
  · exact r5 c' b' hm
theorem IsE0.consB (X : K.In h) (G : h.Ns mainGlobals mg) {t : String} {D : Addr} {c : Str} {b : Bool} {tab : List (Str × Bool)} (a : PySem.W.nsIn K mainGlobals x = some none) (hb : bootBuiltins x = some (.type t)) (aD : PySem.W.nsIn K mainGlobals c = some (some (.ref D)))
    (e : ExcC K D) (h4 : PySem.W.kitOne K (.ref D) (.type t) = some b) (r : IsE0 K mg x tab) : IsE0 K mg x ((c, b) :: tab) := by
  obtain ⟨v, cv, r1, r2, r3, r4, r5⟩ := r
  have hx := PySem.W.mg_none_of X G a
  rcases r4 with r4 | ⟨r4, r4b, r4n⟩
  · rw [hx] at r4; cases r4
  · have ecv : cv = .type t := by rw [hb] at r4b; exact (Option.some.inj r4b).symm
    subst ecv
    refine ⟨v, _, r1, r2, r3, .inr ⟨hx, hb, r4n⟩, fun c' b' hm => ?_⟩
    rcases List.mem_cons.mp hm with e' | hm
    · cases e'
      exact ⟨D, PySem.W.mg_of X G aD, e, h4⟩
    · exact r5 c' b' hm
end
/-! ### the law's own head -/
def spL (K : PySem.W.Frag) : Sp := fun vs H Q _ => ∃ (a : Addr) (ns : List Int), vs = [.ref a] ∧ ScrL K H a (ns.map V.int) ∧ ns.length ≤ 63 ∧ ∀ H', Q (.bl true) H'
theorem spL_of {K : PySem.W.Frag} {H : Hp} {a : Addr} {ns : List Int} (hl : ns.length ≤ 63) (hO : L2.Only H) (hS : SqL K H a (ns.map V.int)) : spL K [.ref a] H (fun v _ => v = .bl true) fun _ _ _ => False := by
  refine ⟨a, ns, rfl, ?_, hl, fun _ => rfl⟩
  rcases hS with (h | h) | h
  · rcases hO a with z | ⟨o, xs, z⟩
    · rw [h] at z; cases z
    · rw [h] at z; cases z
  · exact .inl h
  · exact .inr h
theorem fnL {P : Program} {w : World} {K : PySem.W.Frag} {mg : Str → Option Value} {base : Heap} {CX : CXT} {k : Nat} {f : Addr} {fd : FuncData} {ps : List Str} {F : Fn} (h : FnOk P w K mg base CX k f fd ps (spF K mg 1 F)) (hF : ∀ ns : List Int, ns.length ≤ 63 → F [.scr ns] = .ok (.v (.bl true))) : FnOk P w K mg base CX k f fd ps (spL K) :=
  h.imp fun vs H Q E ⟨a, ns, e, hs, hl, q⟩ => by
    subst e
    refine ⟨[.scr ns], rfl, ⟨_, _, rfl, ⟨a, rfl, hs⟩, rfl⟩, ?_⟩
    rw [hF ns hl]
    exact fun H' x _ r => by cases (show _ = _ from r); exact q H'
theorem noCX {P : Program} {w : World} {H : Hp} {s : Shared} {e : Value} {s' : Shared} (h : L2.CX P w [] H s (fun _ _ _ => False) e s') : False := by
  obtain ⟨_, _, _, _, _, _, _, _, _, _, _, _, z⟩ := h
  exact z
theorem Cal0.none_ {P : Program} {w : World} {K : PySem.W.Frag} {mg : Str → Option Value} {base : Heap} {k : Nat} {x : Str} {n : Nat} {st : Stmt} {ps : List Str} (T : FnT K mg x st ps) : Cal0 P w K mg base k x n (fun _ => .stuck) := by
  obtain ⟨fa, fd, h1, h2, h3, h4⟩ := T
  exact ⟨fa, fd, ps, ⟨fun vs H Q E h => by obtain ⟨_, _, _, z⟩ := h; exact z.elim, fun A outer s H args us vs Q E _ _ _ _ h => by obtain ⟨_, _, _, z⟩ := h; exact z.elim⟩, h1, h3, h4⟩
end PL

namespace PL
open PySem PySem.Spec PyProof.Rows L2
/-! ### own objects change -/
def ownD (ρ : Rho) (i : Nat) : Option D := match ρ[i]? with
  | some (some (.o d)) => some d
  | _ => none
theorem ownD_is {ρ : Rho} {i : Nat} {d : D} (h : ownD ρ i = some d) : ρ[i]? = some (some (.o d)) := by
  unfold ownD at h
  split at h
  · rename_i d' h'; cases h; exact h'
  · cases h
def putO (ρ : Rho) (i : Nat) (d : D) : Rho := ρ.set i (some (.o d))
theorem ER.put {K : PySem.W.Frag} {g : Cf} {ρ : Rho} {σ : L2.St} {H H' : Hp} {i : Nat} {d d' : D} {a : Addr} (R : ER K g ρ σ H) (hi : ρ[i]? = some (some (.o d))) (ha : σ[i]? = some (some (.ref a))) (e : ∀ b, b ≠ a → H' b = H b) (x : Ext H H') (o : OwnAt K H' a d') : ER K g (putO ρ i d') σ H' := by
  have hlt : i < ρ.length := by
    rcases Nat.lt_or_ge i ρ.length with z | z
    · exact z
    · rw [List.getElem?_eq_none z] at hi; cases hi
  have gρ : ∀ j, (putO ρ i d')[j]? = if j = i then some (some (.o d')) else ρ[j]? := fun j => by
    unfold putO
    by_cases hj : j = i
    · subst hj; rw [if_pos rfl, List.getElem?_set_self hlt]
    · rw [if_neg hj, List.getElem?_set_ne (Ne.symm hj)]
  have un : ∀ {j : Nat} {dj : D}, (putO ρ i d')[j]? = some (some (S.o dj)) → ∃ dk : D, ρ[j]? = some (some (S.o dk)) := fun {j dj} h => by
    rw [gρ] at h
    by_cases hj : j = i
    · subst hj; exact ⟨d, hi⟩
    · rw [if_neg hj] at h; exact ⟨_, h⟩
  refine ⟨by unfold putO; rw [List.length_set]; exact R.len, fun j dj h => ?_, fun j dj h => ?_, fun j m h => ?_, fun j m dj dm b h1 h2 h3 h4 => ?_, fun b ob h q => ?_, fun j dj b h1 h2 => ?_, fun p hp => ?_⟩
  · rw [gρ] at h
    by_cases hj : j = i
    · rw [if_pos hj] at h; cases h
    · rw [if_neg hj] at h
      obtain ⟨y, h1, h2⟩ := R.val j dj h
      exact ⟨y, h1, Imm.ext x _ _ h2⟩
  · rw [gρ] at h
    by_cases hj : j = i
    · rw [if_pos hj] at h; cases h; subst hj; exact ⟨a, ha, o⟩
    · rw [if_neg hj] at h
      obtain ⟨b, h1, h2⟩ := R.own j dj h
      have hb : b ≠ a := fun z => hj (R.sep j i dj d a h hi (z ▸ h1) ha)
      exact ⟨b, h1, h2.ext x (e b hb)⟩
  · rw [gρ] at h
    by_cases hj : j = i
    · rw [if_pos hj] at h; cases h
    · rw [if_neg hj] at h; exact R.bor j m h
  · obtain ⟨k1, h1'⟩ := un h1
    obtain ⟨k2, h2'⟩ := un h2
    exact R.sep j m k1 k2 b h1' h2' h3 h4
  · have hb : b ≠ a := fun z => by
      subst z
      rcases R.new i d b hi ha with h0 | h0
      · rw [h0] at h; cases h
      · exact q _ h0 rfl
    rw [e b hb]
    exact R.old b ob h q
  · obtain ⟨k1, h1'⟩ := un h1
    exact R.new j k1 b h1' h2
  · obtain ⟨h1, dj, h2⟩ := R.io p hp
    refine ⟨h1, ?_⟩
    rw [gρ]
    by_cases hj : p.1 = i
    · rw [if_pos hj]; exact ⟨_, rfl⟩
    · rw [if_neg hj]; exact ⟨_, h2⟩
/-- the own list is overwritten -/
theorem lst_upd {K : PySem.W.Frag} {H : Hp} {a : Addr} {xs ys : List V} {es : List D} (h : H a = some (.lst xs)) (im : ImmL K H es ys) : Ext H (upd H a (.lst ys)) ∧ (∀ b, b ≠ a → upd H a (.lst ys) b = H b) ∧ OwnAt K (upd H a (.lst ys)) a (.lst es) := by
  have x : Ext H (upd H a (.lst ys)) := mut_ext h True.intro fun b hb => upd_ne hb
  exact ⟨x, fun b hb => upd_ne hb, ys, upd_same, ImmL.ext x _ _ im⟩
section
variable {g : Cf} {X : Cx} {e a b c ie : Expr} {es : List Expr} {pos : Pos} {K : PySem.W.Frag} {W : WX}
/-- a method of an own list: its result, the list behind it -/
def MlR (X : Cx) (r : V → List V → Hp → VK → Prop) (od : List D → List D → Option (D × List D)) : Prop :=
  ∀ (a : Addr) (vs xs : List V) (H : Hp) (Q : VK) (ls ds ls' : List D) (z : D), H a = some (.lst vs) → ImmL X.K H ls vs → ImmL X.K H ds xs → od ls ds = some (z, ls') →
    (∀ y H', Ext H H' → (∀ b, b ≠ a → H' b = H b) → OwnAt X.K H' a (.lst ls') → Imm X.K H' z y → Q y H') → r (.ref a) xs H Q
def eMl (l : List Nat) (i : Nat) (od : List D → List D → Option (D × List D)) (fa : Ax) : Ex := fun ρ => match ownD ρ i with
  | some (.lst _) => aF l fa ρ >>= fun p => (match ownD p.2 i with
    | some (.lst ls) => liftO (od ls p.1) >>= fun q => .ok (.v q.1, putO p.2 i (.lst q.2))
    | _ => .stuck)
  | _ => .stuck
theorem tyL_of {K : PySem.W.Frag} {H : Hp} {a : Addr} {ds : List D} (o : OwnAt K H a (.lst ds)) : tyV K "list" (.ref a) H := by
  obtain ⟨vs, h, _⟩ := o
  exact .inl ⟨rfl, vs, SqL.of h⟩
theorem readMl {r : V → List V → Hp → VK → Prop} {od : List D → List D → Option (D × List D)} {i : Nat} {fa : Ax} {σ : L2.St} {H : Hp} {Q : VK} (h : MlR X r od) (t : tE X.K g (eMl g.ios i od fa) W σ H Q) :
    ∃ x, σ[i]? = some (some x) ∧ tyV X.K "list" x H ∧ tAF X.K g fa W σ H fun xs H2 => r x xs H2 Q := by
  obtain ⟨ρ, R, q⟩ := t
  unfold eMl at q
  split at q
  case h_2 => exact q.elim
  rename_i ls0 ho
  obtain ⟨a, ha, o⟩ := R.own i _ (ownD_is ho)
  refine ⟨_, ha, tyL_of o, ?_⟩
  refine tAF_step R q fun ds ρ1 xs H1 R1 E1 im q1 => ?_
  split at q1
  case h_2 => exact q1.elim
  rename_i ls ho1
  obtain ⟨p, hp, q2⟩ := q1.opt
  have hi := ownD_is ho1
  obtain ⟨a', ha', o'⟩ := R1.own i _ hi
  rw [ha] at ha'
  cases ha'
  obtain ⟨vs, hv, iv⟩ := o'
  refine h a vs xs H1 Q ls ds p.2 p.1 hv iv im hp fun y H' E2 k o2 iy => ?_
  exact q2 H' E2 (R1.put hi ha k E2 o2) y iy
theorem e_ml {x name : Str} {id : String} {i : Nat} {p apos : Pos} {r : V → List V → Hp → VK → Prop} {od : List D → List D → Option (D × List D)} {fa : Ax} (slot : PySem.Slot "list" name id) (hty : typeOf (.builtin id) = pure (.type "method_descriptor"))
    (hr : ∀ X, At g X → MtR X id r ∧ MlR X r od) (ha : AOk g (e :: es) fa) (hN : g.N[i]? = some x := by rfl) (hv : Vis g.sc x := by first | exact Or.inl rfl | exact Or.inr (Or.inl rfl) | exact Or.inr (Or.inr rfl)) (hd : (x == ("__debug__" : Str)) = false := by decide) (hcd : (x == ("__classdict__" : Str)) = false := by decide)
    (hbase : ∀ env, attributeBase (.Name x p) name env (eval (.Name x p) env) = eval (.Name x p) env := by intro _; rfl)
    (hfew : ∀ env, ((backTo pos (starEach (e :: es) env)).all (fun x => !x.1) && (backToKw pos (keywordEach [] env)).all (fun x => x.1.isSome)
      && decide ((e :: es).length + ([] : List Keyword).length + (if ([] : List Keyword).isEmpty then 0 else 1) < 30)) = true := by intro _; rfl)
    (hline : (apos.endLine == pos.line) = true := by rfl) (hs : ∀ env, starEach (e :: es) env = (false, eval e env) :: starEach es env := by intro _; rfl) (hpl : ∀ env, (backTo pos (starEach es env)).any (·.1) = false := by intro _; rfl) :
    EOk g (.Call (.Attribute (.Name x p) name apos) (e :: es) [] pos) (eMl g.ios i od fa) := fun X W A tk => by
  obtain ⟨h1, h2⟩ := hr X A
  refine PE.imp (pe_bm PySem.F.plainAttrs_list slot hty h1 (pe_var (i := i) (by rw [A.N]; exact hN) (by unfold Vis; rw [A.sc]; exact hv) hd hcd) (ha.f A tk) (hbase _) (hfew _) hline (hs _) (hpl _)) fun σ H Q t => ?_
  obtain ⟨x, k1, k2, k3⟩ := readMl h2 t
  exact ⟨x, k1, k2, k3⟩
theorem e_ml0 {x name : Str} {id : String} {i : Nat} {p apos : Pos} {r : V → List V → Hp → VK → Prop} {od : List D → List D → Option (D × List D)} (slot : PySem.Slot "list" name id) (hty : typeOf (.builtin id) = pure (.type "method_descriptor"))
    (hr : ∀ X, At g X → MtR X id r ∧ MlR X r od) (hN : g.N[i]? = some x := by rfl) (hv : Vis g.sc x := by first | exact Or.inl rfl | exact Or.inr (Or.inl rfl) | exact Or.inr (Or.inr rfl)) (hd : (x == ("__debug__" : Str)) = false := by decide) (hcd : (x == ("__classdict__" : Str)) = false := by decide)
    (hbase : ∀ env, attributeBase (.Name x p) name env (eval (.Name x p) env) = eval (.Name x p) env := by intro _; rfl)
    (hline : (apos.endLine == pos.line) = true := by rfl) :
    EOk g (.Call (.Attribute (.Name x p) name apos) [] [] pos) (eMl g.ios i od aNil) := fun X W A tk => by
  obtain ⟨h1, h2⟩ := hr X A
  refine PE.imp (pe_bm0 PySem.F.plainAttrs_list slot hty h1 (pe_var (i := i) (by rw [A.N]; exact hN) (by unfold Vis; rw [A.sc]; exact hv) hd hcd) (hbase _) hline) fun σ H Q t => ?_
  obtain ⟨x, k1, k2, ρ, R, k3⟩ := readMl h2 t
  exact ⟨x, k1, k2, k3 H (Ext.refl H) R [] rfl⟩
theorem immL_1 {K : PySem.W.Frag} {H : Hp} {d : D} {xs : List V} (h : ImmL K H [d] xs) : ∃ x, xs = [x] ∧ Imm K H d x := by
  obtain ⟨v, r, e, h1, h2⟩ := h
  cases (show _ = _ from h2)
  exact ⟨v, e, h1⟩
theorem immL_2 {K : PySem.W.Frag} {H : Hp} {d d' : D} {xs : List V} (h : ImmL K H [d, d'] xs) : ∃ x y, xs = [x, y] ∧ Imm K H d x ∧ Imm K H d' y := by
  obtain ⟨v, r, e, h1, h2⟩ := h
  obtain ⟨w, rfl, h3⟩ := immL_1 h2
  exact ⟨v, w, e, h1, h3⟩
def mAppend (ls ds : List D) : Option (D × List D) := match ds with
  | [d] => if ls.length < 16777216 then some (.non, ls ++ [d]) else none
  | _ => none
theorem m_append (A : At g X) : MtR X "list.append" rAppend ∧ MlR X rAppend mAppend := ⟨mt_append, fun a vs xs H Q ls ds ls' z hv iv im hod q => by
  match ds, hod with
  | [d], hod =>
    obtain ⟨x, rfl, ix⟩ := immL_1 im
    simp only [mAppend] at hod
    split at hod
    · rename_i hl
      cases hod
      obtain ⟨e1, e2, e3⟩ := lst_upd hv (iv.snoc ix)
      exact ⟨a, vs, x, rfl, rfl, hv, by rw [iv.len, sizeLine_eq]; exact hl, q _ _ e1 e2 e3 rfl⟩
    · cases hod⟩
def mPop (ls ds : List D) : Option (D × List D) := match ds with
  | [] => match ls[ls.length - 1]? with
    | some d => some (d, ls.dropLast)
    | none => none
  | _ => none
theorem immL_dropLast {K : PySem.W.Frag} {H : Hp} {ds : List D} {vs : List V} (h : ImmL K H ds vs) : ImmL K H ds.dropLast vs.dropLast := by
  rw [List.dropLast_eq_take, List.dropLast_eq_take, h.len]
  exact h.take _
theorem m_pop (A : At g X) : MtR X "list.pop" rPop ∧ MlR X rPop mPop := ⟨mt_pop, fun a vs xs H Q ls ds ls' z hv iv im hod q => by
  match ds, hod with
  | [], hod =>
    cases (show _ = _ from im)
    simp only [mPop] at hod
    split at hod
    · rename_i d hd
      cases hod
      obtain ⟨y, hy, iy⟩ := iv.get' hd
      obtain ⟨e1, e2, e3⟩ := lst_upd hv (immL_dropLast iv)
      exact ⟨a, vs, y, rfl, rfl, hv, by rw [iv.len]; exact hy, q _ _ e1 e2 e3 (Imm.ext e1 _ _ iy)⟩
    · cases hod⟩
def mPopAt (ls ds : List D) : Option (D × List D) := match ds with
  | [.int i] => if -(2 ^ 63) ≤ i ∧ i < 2 ^ 63 then (match seqIndex? i ls.length with
    | some k => (match ls[k]? with
      | some d => some (d, ls.eraseIdx k)
      | none => none)
    | none => none) else none
  | _ => none
theorem m_popAt (A : At g X) : MtR X "list.pop" rPopAt ∧ MlR X rPopAt mPopAt := ⟨mt_popAt, fun a vs xs H Q ls ds ls' z hv iv im hod q => by
  match ds, hod with
  | [.int i], hod =>
    obtain ⟨x, rfl, ix⟩ := immL_1 im
    cases (show _ = _ from ix)
    simp only [mPopAt] at hod
    split at hod
    case isFalse => cases hod
    rename_i hi
    split at hod
    case h_2 => cases hod
    rename_i k hk
    split at hod
    case h_2 => cases hod
    rename_i d hd
    cases hod
    obtain ⟨y, hy, iy⟩ := iv.get' hd
    obtain ⟨e1, e2, e3⟩ := lst_upd hv (iv.erase k)
    exact ⟨a, vs, i, k, y, rfl, rfl, hv, hi.1, hi.2, by rw [iv.len]; exact hk, hy, q _ _ e1 e2 e3 (Imm.ext e1 _ _ iy)⟩⟩
def mClear (ls ds : List D) : Option (D × List D) := match ds with
  | [] => some (.non, [])
  | _ => none
theorem m_clear (A : At g X) : MtR X "list.clear" rClear ∧ MlR X rClear mClear := ⟨mt_clear, fun a vs xs H Q ls ds ls' z hv iv im hod q => by
  match ds, hod with
  | [], hod =>
    cases (show _ = _ from im)
    cases hod
    obtain ⟨e1, e2, e3⟩ := lst_upd (K := X.K) (ys := []) (es := []) hv rfl
    exact ⟨a, vs, rfl, rfl, hv, q _ _ e1 e2 e3 rfl⟩⟩
def mReverse (ls ds : List D) : Option (D × List D) := match ds with
  | [] => some (.non, ls.reverse)
  | _ => none
theorem m_reverse (A : At g X) : MtR X "list.reverse" rReverse ∧ MlR X rReverse mReverse := ⟨mt_reverse, fun a vs xs H Q ls ds ls' z hv iv im hod q => by
  match ds, hod with
  | [], hod =>
    cases (show _ = _ from im)
    cases hod
    obtain ⟨e1, e2, e3⟩ := lst_upd hv iv.reverse
    exact ⟨a, vs, rfl, rfl, hv, q _ _ e1 e2 e3 rfl⟩⟩
theorem PSet.or {X : Cx} {t t' : TSet} (h : PSet X t) (h' : PSet X t') : PSet X (fun o i v H Q => t o i v H Q ∨ t' o i v H Q) := by
  intro pins s σ H o i v ov iv u Q I ro ri rv q
  rcases q with q | q
  · exact h pins s σ H o i v ov iv u Q I ro ri rv q
  · exact h' pins s σ H o i v ov iv u Q I ro ri rv q
/-! ### o[i] = v -/
def dSet (d : D) (k : D) (v : D) : Option D := match d, k with
  | .lst ls, .int i => (ixN ls.length i).map fun j => .lst (ls.set j v)
  | .dic t kvs, k => (kOf t k).bind fun kk => if kvs.length < 16777216 then some (.dic t (gPut t kvs kk k v)) else none
  | _, _ => none
def gSb (i : Nat) (fi : Ex) : Gx := fun v ρ => match ownD ρ i, fi ρ with
  | some _, .ok (s, ρ1) => (match PL.pk ρ1 s, ownD ρ1 i with
    | .ok k, some d => (dSet d k v).map fun d' => putO ρ1 i d'
    | _, _ => none)
  | _, _ => none
theorem g_sub {x : Str} {p : Pos} {i : Nat} {fi : Ex} (hi : EOk g ie fi) (hN : g.N[i]? = some x := by rfl) (hv : Vis g.sc x := by first | exact Or.inl rfl | exact Or.inr (Or.inl rfl) | exact Or.inr (Or.inr rfl)) (hd : (x == ("__debug__" : Str)) = false := by decide) (hcd : (x == ("__classdict__" : Str)) = false := by decide)
    (ha : ∀ env v, assign (.Subscript (.Name x p) ie pos) env v = (do
      let ov ← holding [v] (eval (.Name x p) env)
      let iv ← holding [v, ov] (eval ie env)
      standAt pos
      holding [v, ov, iv] (setItem ov iv v)
      release [v, ov, iv] []) := by intro _ _; rfl) : GOk g (.Subscript (.Name x p) ie pos) [] (gSb i fi) := fun X A => by
  refine PG.imp (pg_sub (pe_var (i := i) (by rw [A.N]; exact hN) (by unfold Vis; rw [A.sc]; exact hv) hd hcd) (hi.n A takes0) (PSet.or set_list (set_dict (by have := A.room.un; omega))) (ha _)) fun v σ H Q ⟨ρ, d, R, im, q⟩ => ?_
  unfold gSb at q
  split at q
  case h_2 => exact q.elim
  rename_i d0 s ρ1 ho hf
  obtain ⟨a, ha1, o⟩ := R.own i _ (ownD_is ho)
  refine ⟨_, ha1, ρ, R, ?_⟩
  rw [hf]
  intro H1 E1 R1 y n1
  split at q
  case h_2 => exact q.elim
  rename_i k dd hk ho1
  have hi1 := ownD_is ho1
  obtain ⟨a', ha2, o'⟩ := R1.own i _ hi1
  rw [ha1] at ha2
  cases ha2
  cases hs : dSet dd k d with
  | none => rw [hs] at q; exact q.elim
  | some d' =>
    rw [hs] at q
    unfold dSet at hs
    split at hs
    case h_3 => cases hs
    case h_2 t kvs =>
      cases hk2 : kOf t k with
      | none => rw [hk2] at hs; cases hs
      | some kk =>
        rw [hk2, Option.bind_some] at hs
        split at hs
        case isFalse => cases hs
        case isTrue hl =>
          cases hs
          obtain ⟨H', e0, e1, e2, e3⟩ := dput_of o' (pk_rd n1 R1 (Ext.refl _) hk) hk2 (Imm.ext E1 _ _ im) hl
          exact .inr ⟨a, H', rfl, e0, q σ _ (Chs.refl _ _) (E1.trans e1) (R1.put hi1 ha1 e2 e1 e3)⟩
    rename_i ls j
    obtain ⟨vs, hv1, iv⟩ := o'
    cases hj : ixN ls.length j with
    | none => rw [hj] at hs; cases hs
    | some jj =>
      rw [hj] at hs
      cases hs
      have hy := (pk_rd n1 R1 (Ext.refl _) hk).int
      obtain ⟨e1, e2, e3⟩ := lst_upd hv1 (iv.set jj (Imm.ext E1 _ _ im))
      exact .inl ⟨a, vs, j, jj, rfl, hy, hv1, by rw [iv.len]; exact hj, q σ _ (Chs.refl _ _) (E1.trans e1) (R1.put hi1 ha1 e2 e1 e3)⟩
/-! ### x op= e -/
def IpB (X : Cx) (op : Operator) (od : D → D → Option S) : Prop :=
  ∃ r : TIp, PIp X op r ∧ ∀ (x y : V) (H : Hp) (Q : VK) (d1 d2 : D) (s : S), Imm X.K H d1 x → Rd X.K H d2 y → od d1 d2 = some s → (∀ z H', Same H H' → RS X.K H H' s z → Q z H') → r x y H Q
def valD (ρ : Rho) (i : Nat) : Option D := match ρ[i]? with
  | some (some (.v d)) => some d
  | _ => none
theorem valD_is {ρ : Rho} {i : Nat} {d : D} (h : valD ρ i = some d) : ρ[i]? = some (some (.v d)) := by
  unfold valD at h
  split at h
  · rename_i d' h'; cases h; exact h'
  · cases h
def sAug (l : List Nat) (i : Nat) (od : D → D → Option S) (f : Ex) : Sx := fun ρ => liftO (valD ρ i) >>= fun d1 => f ρ >>= fun p => PL.pk p.2 p.1 >>= fun d2 => liftO (od d1 d2) >>= fun s => if i ∈ l then .stuck else .ok (.next (p.2.set i (some s)))
theorem s_aug {i : Nat} {x : Str} {op : Operator} {od : D → D → Option S} {f : Ex} {pos' : Pos} (sl : Slot g x i) (ho : ∀ X, At g X → IpB X op od) (h : EOk g e f) : SOk g (.AugAssign (.Name x pos') op e pos) (sAug g.ios i od f) := fun X W A tk => by
  obtain ⟨r, hr, hh⟩ := ho X A.toAt
  refine PS.imp (ps_aug (i := i) (by rw [A.N]; exact sl.nd) (by rw [A.N]; exact sl.ix) (by unfold L2.Loc; rw [A.sc]; exact sl.loc) (h.n A.toAt tk) hr (by rw [A.sc]; exact sl.fn.imp (A.fn x) id)) fun D σ H ⟨ρ, R, q⟩ => ?_
  obtain ⟨d1, hd1, q1⟩ := q.opt
  obtain ⟨x1, k1, k2⟩ := R.val i d1 (valD_is hd1)
  refine ⟨x1, k1, ρ, R, Ps_step q1 fun p _ q2 H1 E1 R1 y n => ?_⟩
  obtain ⟨d2, h2, q3⟩ := q2.pk
  obtain ⟨s, hs, q4⟩ := q3.opt
  refine hh x1 y H1 _ d1 d2 s (Imm.ext E1 _ _ k2) (pk_rd n R1 (Ext.refl _) h2) hs fun z H2 sm rs => ?_
  split at q4
  · exact q4.elim
  · rename_i hio
    have R2 := R1.same sm
    have b : BR X.K g p.2 σ H2 s z := by
      have sr := rs.sr R1
      cases s with
      | v d => exact sr
      | o d => exact sr
      | b j => exact rs.elim
    exact q4 _ H2 (E1.trans (Ext.of_same sm)) (R2.set b hio)
theorem ipB_of {op : Operator} {r : TIp} (hr : PIp X op r) {od : D → D → Option S} (h : ∀ (x y : V) (H : Hp) (Q : VK) (d1 d2 : D) (s : S), Imm X.K H d1 x → Rd X.K H d2 y → od d1 d2 = some s → (∀ z H', Same H H' → RS X.K H H' s z → Q z H') → r x y H Q) : IpB X op od := ⟨r, hr, h⟩
def iAdd : D → D → Option S
  | .int i, .int j => some (.v (.int (i + j)))
  | .str i, .str j => if i.length + j.length ≤ 16777216 then some (.v (.str (i ++ j))) else none
  | _, _ => none
theorem ip_or {op : Operator} {r r' : TIp} (h : PIp X op r) (h' : PIp X op r') : PIp X op (fun x y H Q => r x y H Q ∨ r' x y H Q) := fun pins s σ H x y v u Q I r1 r2 q => by
  rcases q with q | q
  · exact h pins s σ H x y v u Q I r1 r2 q
  · exact h' pins s σ H x y v u Q I r1 r2 q
theorem i_add (A : At g X) : IpB X .Add iAdd := by
  refine ⟨_, ip_or iop_add iop_add_str, fun x y H Q d1 d2 s r1 r2 h q => ?_⟩
  unfold iAdd at h
  split at h
  · cases h
    cases (show _ = _ from r1)
    cases r2.int
    exact .inl ⟨_, _, rfl, rfl, q _ H (Same.refl H) rfl⟩
  · split at h
    · rename_i hz
      cases h
      cases (show _ = _ from r1)
      cases r2.str
      exact .inr ⟨_, _, rfl, rfl, line_le hz, q _ H (Same.refl H) rfl⟩
    · cases h
  · cases h
def iInt (f : Int → Int → Option Int) : D → D → Option S
  | .int i, .int j => (f i j).map fun k => .v (.int k)
  | _, _ => none
theorem iInt_is {f : Int → Int → Option Int} {d1 d2 : D} {s : S} (h : iInt f d1 d2 = some s) : ∃ i j k, d1 = .int i ∧ d2 = .int j ∧ f i j = some k ∧ s = .v (.int k) := by
  unfold iInt at h
  split at h
  · rename_i i j
    cases hf : f i j with
    | none => rw [hf] at h; cases h
    | some k => rw [hf] at h; cases h; exact ⟨i, j, k, rfl, rfl, hf, rfl⟩
  · cases h
def iSub := iInt fun i j => some (i - j)
theorem i_sub (A : At g X) : IpB X .Sub iSub := by
  refine ⟨_, iop_sub, fun x y H Q d1 d2 s r1 r2 h q => ?_⟩
  obtain ⟨i, j, k, rfl, rfl, hf, rfl⟩ := iInt_is h
  cases hf
  cases (show _ = _ from r1)
  cases r2.int
  exact ⟨_, _, rfl, rfl, q _ H (Same.refl H) rfl⟩
end
end PL

/-! enumerate of anything that begins (Begins) -/
namespace PL
open PySem PySem.Spec PyProof.Rows L2
theorem enumNew {v : Value} {o : Obj} {H : Heap → Prop} (B : PySem.Begins v o H) :
    Meets (Builtin.«enumerate.__new__» ⟨[.type "enumerate", v], []⟩) (fun _ R s => H s.heap ∧
      R (.ok (.ret (.ref (s.heap.push o).objs.size))) { s with heap := (s.heap.push o).push { cls := .type "enumerate", data := .fields #[.none, .bool false, .ref s.heap.objs.size, rawInt 0, .none, .none] } }) :=
  .of_wp fun prog w A R s h => by
    obtain ⟨hp, g, d, tk, os⟩ := s; obtain ⟨h1, h⟩ := h
    have hsub := sub_enumerate
    have q1 : ∀ {A' : Around} {E : Value → Shared → Prop} {Q : Value → Shared → Prop}, Q (.ref hp.objs.size) ⟨hp.push o, g, d, tk, os⟩ → wpAny (model prog w) A' (pyIter v) Q E ⟨hp, g, d, tk, os⟩ :=
      fun q => B.iter prog w _ _ ⟨hp, g, d, tk, os⟩ _ h1 q
    wp_walk using q1
    refine wpAny_stack_any fun st => wpAny_pure ?_
    split
    · rename_i c _ _ _ _ _
      cases (c == Value.type "enumerate")
      · wp_walk using q1
        exact ⟨_, rfl, h⟩
      · wp_walk using q1
        exact ⟨_, rfl, h⟩
    · wp_walk using q1
      exact ⟨_, rfl, h⟩
section
variable {prog : Program} {w : World} {A : Around} {E : Value → Shared → Prop} {s : Shared}
theorem enum_begins1 {v : Value} {o : Obj} {H : Heap → Prop} {Q : Value → Shared → Prop} (B : PySem.Begins v o H) (h1 : H s.heap)
    (h : ∀ h', IsEnum h' (s.heap.objs.size + 1) s.heap.objs.size 0 .none → h'.get? s.heap.objs.size = some o → h'.objs.size = s.heap.objs.size + 2 →
      (∀ b o, s.heap.get? b = some o → h'.get? b = some o) → Q (.ref (s.heap.objs.size + 1)) { s with heap := h' }) :
    wpAny (model prog w) A (call (.type "enumerate") [v]) Q E s := by
  refine callType_new F.called_enumerate (by decide) (F.typeCall_enumerate_1 _) (F.newCall_enumerate_1 _) (fun obj => F.args_object_init_2 obj _) F.entry_enumerate_new
    (enumNew B) ⟨h1, ?_⟩
  have hz : (s.heap.push o).objs.size = s.heap.objs.size + 1 := Heap.size_push ..
  show _ ∧ _
  rw [hz]
  have he : IsEnum ((s.heap.push o).push { cls := .type "enumerate", data := .fields #[.none, .bool false, .ref s.heap.objs.size, rawInt 0, .none, .none] }) (s.heap.objs.size + 1) s.heap.objs.size 0 .none := by
    have := Heap.get?_push_size (s.heap.push o) (o := { cls := .type "enumerate", data := .fields #[.none, .bool false, .ref s.heap.objs.size, rawInt 0, .none, .none] }) rfl
    rw [hz] at this; exact this
  refine ⟨⟨_, he, rfl⟩, h _ he (Heap.get?_push_of_some _ (Heap.get?_push_size _ B.free)) (by rw [Heap.size_push, hz]) fun b o x => Heap.get?_push_of_some _ (Heap.get?_push_of_some _ x)⟩
end
theorem enumEnd {prog : Program} {w : World} {A : Around} {E : Value → Shared → Prop} {s : Shared} {e it t : Addr} {i : Nat} {c : Int} {items : Array Value} {old : Value} {Q : Option Value → Shared → Prop} (hh : A.handled = none)
    (he : IsEnum s.heap e it c old) (hit : s.heap.IsTupleIter it t i) (ht : s.heap.IsTuple t items) (hx : items[i]? = none)
    (hQ : ∀ h', Heap.ExtBut it s.heap h' → Q none { s with heap := h' }) : wpAny (model prog w) A (pyNext (.ref e)) Q E s := by
  have hT : s.TypeIs (.ref e) "enumerate" := ⟨_, he, rfl⟩
  unfold pyNext
  refine wpAny_bind (wpAny_attempt (wpAny_callSpecial?_slot (name := Str.ofString "__next__") hT F.slot_enumerate_next
    (wpAny_call_entry F.slot_enumerate_next hT F.entry_enumerate_next ?_ (F.args_enumerate_next_1 _))))
  show wpAny _ _ (field (.ref e) 2 >>= _) _ _ _
  refine wpAny_bind (wpAny_field he rfl (x := .ref it) rfl ?_)
  refine wpAny_bind (wpAny_nextOf_tuple_end hh hit ht hx fun h' x he' hx' => ?_)
  obtain ⟨o, ho, hc⟩ := hx'
  refine wpAny_bind (wpAny_isInstance (T := "StopIteration") (b := true) ⟨o, ho, hc⟩ isSubtype_stop ?_)
  exact wpAny_pure (hQ _ he')
/-- the tuple at a, each item in a new pair with its place -/
def IteT (K : PySem.W.Frag) (a : Addr) : It :=
  ⟨fun i H => ∃ (xs : List V) (x : V), SqT K H a xs ∧ xs[i]? = some x, fun i H v H' => ∃ T x, v = .ref T ∧ H T = none ∧ H' = upd H T (.tup [.int (i : Nat), x]) ∧ ∀ xs, SqT K H a xs → xs[i]? = some x, fun i H => ∃ xs : List V, SqT K H a xs ∧ xs.length ≤ i⟩
theorem turn_enumT {P : Program} {w : World} {K : PySem.W.Frag} {elts : List Expr} {kk : Nat} {tpos : Pos} (a e it : Addr) (hne : a ≠ it) (hae : a ≠ e) :
    Turn P w K (.Tuple elts kk tpos) (IteT K a) [e, it] e (fun i h => (∃ old, IsEnum h e it ((i : Nat) : Int) old) ∧ h.IsTupleIter it a i ∧ e ≠ it) where
  mem := by simp
  obj := fun i h st b hb => by
    obtain ⟨⟨old, he⟩, ⟨o, ho, hc, hd⟩, _⟩ := st
    have e' : b = e ∨ b = it := by simpa using hb
    rcases e' with z | z
    · rw [z]; exact ⟨_, he, fun v q => nomatch q⟩
    · rw [z]; exact ⟨o, ho, fun v q => by rw [hd] at q; cases q⟩
  keep := fun i h h' st k => let ⟨⟨old, he⟩, hi, hne⟩ := st; ⟨⟨old, k e (by simp) _ he⟩, hi.at fun o q => k it (by simp) o q, hne⟩
  item := by
    intro X hP hw hK hc i pins s σ H E I hf st hg
    subst hP hw hK
    obtain ⟨⟨old, he⟩, hit, hei⟩ := st
    obtain ⟨xs, x, hq, hx⟩ := hg
    obtain ⟨its, rv, p, hz⟩ := I.tuple hq
    obtain ⟨u, hu, ru⟩ := rv.get hx
    have hel : e < s.heap.objs.size := Heap.lt_size he
    have hil : it < s.heap.objs.size := by obtain ⟨_, q, _⟩ := hit; exact Heap.lt_size q
    have hil2 : i < its.toArray.size := by
      rcases Nat.lt_or_ge i its.length with z | z
      · simpa using z
      · rw [List.getElem?_eq_none z] at hu; cases hu
    refine wpAny_pyNext_enum_itemD (Draws.tuple (A := X.A.in1) (show X.A.in1.handled = none from I.ok.hd hc) it a hne its.toArray) he ⟨hit, p⟩ hil2 hei (fun z => by
      rcases List.mem_cons.mp z with z | z
      · exact hei z
      · exact hae (List.mem_singleton.mp z).symm) fun u' h' tk hu' ho hst' hT hsz hk => ?_
    have hu2 : u' = u := by
      have : its.toArray[i]? = some u' := hu'
      rw [List.getElem?_toArray, hu] at this
      exact (Option.some.inj this).symm
    subst hu2
    obtain ⟨hit', _⟩ := hst'
    refine ⟨_, rfl, wpAny_letOwnedTupleGo_enum (s := { s with heap := h', toks := tk + 1 }) ho fun h'' he' sb => ?_⟩
    have hT2 : h''.get? s.heap.objs.size = some { cls := .type "tuple", data := .seq #[.int i tk, u'] } := (sb.2 _ (Nat.ne_of_gt hel)).trans hT
    have new : ObjOk X.prog X.w (upd H s.heap.objs.size (.tup [.int (i : Nat), x])) h'' s.heap.objs.size (.tup [.int (i : Nat), x]) :=
      ⟨by show 2 ≤ sizeLine; decide, [.int i tk, u'], .cons ⟨_, rfl⟩ (.cons ru .nil), ⟨_, hT2, rfl, _, rfl⟩⟩
    have I1 : Inv X pins σ (upd H s.heap.objs.size (.tup [.int (i : Nat), x])) { s with heap := h'', toks := tk + 1 } :=
      I.turnedNew (ch := [e, it]) (fun b ob hb q => (sb.2 b (fun z => hb (by simp [z]))).trans (hk b ob (fun z => hb (by simp [z])) (fun z => hb (by simp [z])) q)) hf (Nat.le_refl _) new
    refine ⟨.ref s.heap.objs.size, _, I1, rfl, ⟨_, x, rfl, I.hok.fresh (Nat.le_refl _), rfl, fun ys hy => by rw [I.tuple_inj hy hq]; exact hx⟩, ⟨⟨u', ?_⟩, hit'.at fun o q => (sb.2 it (Ne.symm hei)).trans q, hei⟩, fun b hb => ?_⟩
    · have e1 : ((i + 1 : Nat) : Int) = (i : Int) + 1 := by omega
      rw [e1]; exact he'
    · have hb' : b < s.heap.objs.size := by
        have e' : b = e ∨ b = it := by simpa using hb
        rcases e' with z | z
        · rw [z]; exact hel
        · rw [z]; exact hil
      rw [upd_ne (Nat.ne_of_lt hb')]
      exact (hf b hb).1
  done := by
    intro X hP hw hK hc i pins s σ H E I hf st hg
    subst hP hw hK
    obtain ⟨⟨old, he⟩, hit, hei⟩ := st
    obtain ⟨xs, hq, hx⟩ := hg
    obtain ⟨its, rv, p, hz⟩ := I.tuple hq
    obtain ⟨f0, f1, f2, f3, f4, f5⟩ := hf it (by simp)
    have hl := rv.length
    have hle : its.toArray[i]? = none := by simp; omega
    refine enumEnd (I.ok.hd hc) he hit p hle fun h' eb => ⟨rfl, I.turned (t' := s.toks) (fun b o hb q => eb b o hb q) f0 f1 f3 f4 f5⟩
  self := fun A i s Q E st h => let ⟨⟨_, he⟩, _⟩ := st; wpAny_pyIter_enum he h
/-- enumerate(x), x a list or a tuple -/
def iEnumA (K : PySem.W.Frag) (ta : TA) : TI := fun σ H R => ta σ H fun vs H1 => ∃ a xs, vs = [.ref a] ∧ ((SqL K H1 a xs ∧ R (Ite K a) H1) ∨ (SqT K H1 a xs ∧ R (IteT K a) H1))
theorem pi_enumA {X : Cx} {e : Expr} {ta : TA} {p pos tpos : Pos} {elts : List Expr} {kk : Nat} (hg : Gl X "enumerate") (hm : X.mg "enumerate" = none) (ha : PA X [e] ta) (hs : starEach [e] X.env = [(false, eval e X.env)] := by rfl) :
    PI X (.Tuple elts kk tpos) (.Call (.Name "enumerate" p) [e] [] pos) (iEnumA X.K ta) := by
  refine ⟨fun pins s σ H R I h => ?_⟩
  refine Call_ (ld_blt I hg hm boot_enumerate (PyProof.Rows.callWith_type1 (thn (ha.run pos pins s σ H _ I h) fun us s1 ⟨vs, H1, I1, r1, q1⟩ => ?_) hs rfl))
  obtain ⟨a, xs, ex, hq⟩ := q1
  subst ex
  cases r1 with
  | cons r rr =>
    cases rr
    cases r
    have fp : ∀ b, b ∈ [s1.heap.objs.size + 1, s1.heap.objs.size] → FpOk X pins H1 b := fun b hb => by
      have e' : b = s1.heap.objs.size + 1 ∨ b = s1.heap.objs.size := by simpa using hb
      have hle : s1.heap.objs.size ≤ b := by
        rcases e' with z | z
        · rw [z]; exact Nat.le_add_right _ _
        · rw [z]; exact Nat.le_refl _
      exact I1.fpOk hle (I1.hok.fresh hle)
    rcases hq with ⟨hq, q⟩ | ⟨hq, q⟩
    · obtain ⟨its, rv, p', hz⟩ := I1.list hq
      refine call_enumerate_list p'.isList fun h' he hit hsz hk => wpAny_pyIter_enum he ?_
      have I2 : Inv X pins σ H1 { s1 with heap := h' } := I1.kept (t' := s1.toks) hk
      exact ⟨s1.heap.objs.size + 1, [s1.heap.objs.size + 1, s1.heap.objs.size], _, _, H1, rfl, I2, turn_enum a (s1.heap.objs.size + 1) s1.heap.objs.size, ⟨⟨.none, he⟩, hit, Nat.succ_ne_self _⟩, fp, q⟩
    · obtain ⟨its, rv, p', hz⟩ := I1.tuple hq
      have hal : a < s1.heap.objs.size := by obtain ⟨_, e1, _⟩ := id p'; exact Heap.lt_size e1
      refine enum_begins1 (begins_tuple a its.toArray) p' fun h' he hit hsz hk => wpAny_pyIter_enum he ?_
      have I2 : Inv X pins σ H1 { s1 with heap := h' } := I1.kept (t' := s1.toks) hk
      exact ⟨s1.heap.objs.size + 1, [s1.heap.objs.size + 1, s1.heap.objs.size], _, _, H1, rfl, I2, turn_enumT a (s1.heap.objs.size + 1) s1.heap.objs.size (Nat.ne_of_lt hal) (Nat.ne_of_lt (Nat.lt_succ_of_lt hal)), ⟨⟨.none, he⟩, ⟨_, hit, rfl, rfl⟩, Nat.succ_ne_self _⟩, fp, q⟩
section
variable {g : Cf} {X : Cx} {e a b c tg : Expr} {es : List Expr} {pos : Pos}
theorem walk_enumT {K : PySem.W.Frag} {a : Addr} {xs : List V} : Walk (IteT K a) xs.length (fun H => SqT K H a xs) (YPair (fun i => some (.int (i : Nat))) (fun i => xs[i]?)) := by
  refine ⟨fun i _ hi q => ⟨xs, xs[i], q, by simp [hi]⟩, fun _ q => ⟨xs, q, Nat.le_refl _⟩, fun i H v H' _ q y => ?_⟩
  obtain ⟨T, x, h1, h2, h3, h4⟩ := y
  exact ⟨T, .int (i : Nat), x, h1, h2, h3, rfl, h4 xs q⟩
def enD : Nat → List D → List D
  | _, [] => []
  | k, d :: ds => .tup [.int (k : Nat), d] :: enD (k + 1) ds
theorem enD_len : ∀ (ds : List D) (k : Nat), (enD k ds).length = ds.length
  | [], _ => rfl
  | d :: ds, k => by rw [enD, List.length_cons, List.length_cons, enD_len ds]
theorem enD_get : ∀ (ds : List D) (k i : Nat), (enD k ds)[i]? = ds[i]?.map fun d => .tup [.int ((k + i : Nat) : Int), d]
  | [], _, _ => by simp [enD]
  | d :: ds, k, 0 => by simp [enD]
  | d :: ds, k, i + 1 => by
    rw [enD, List.getElem?_cons_succ, enD_get ds (k + 1) i, List.getElem?_cons_succ]
    rw [show k + 1 + i = k + (i + 1) by omega]
/-- from a walk of new pairs -/
theorem it_pair {K : PySem.W.Frag} {J : It} {H : Hp} {G : Hp → Prop} {n : Nat} {fx fy : Nat → Option V} {ps : List D} (hn : ps.length = n) (w : Walk J n G (YPair fx fy)) (g : G H) (gs : ∀ H1 H2, Ext H1 H2 → G H1 → G H2)
    (hp : ∀ i H1 x y, i < n → G H1 → fx i = some x → fy i = some y → ∃ d e, ps[i]? = some (.tup [d, e]) ∧ Imm K H1 d x ∧ Imm K H1 e y) : ItOk K J ps H := by
  subst hn
  refine ⟨G, _, w, g, gs, fun i H1 v H2 hi hg hy => ?_⟩
  obtain ⟨T, x, y, rfl, hT, rfl, h1, h2⟩ := hy
  obtain ⟨d, e, h3, h4, h5⟩ := hp i H1 x y hi hg h1 h2
  have sm : Same H1 (upd H1 T (.tup [x, y])) := new_tup (K := K) hT
  exact ⟨sm, _, h3, T, _, rfl, TpT.of upd_same, x, [y], rfl, Imm.ext (Ext.of_same sm) _ _ h4, y, [], rfl, Imm.ext (Ext.of_same sm) _ _ h5, rfl⟩
theorem it_enT {K : PySem.W.Frag} {H : Hp} {ds : List D} {vs : List V} {a : Addr} (h1 : TpT K H a vs) (h2 : ImmL K H ds vs) : ItOk K (IteT K a) (enD 0 ds) H := by
  refine it_pair (by rw [enD_len, ← h2.len]) (walk_enumT.mono (G' := fun H => TpT K H a vs ∧ ImmL K H ds vs) (fun H g => g.1.seq) fun _ _ _ _ _ _ y => y) ⟨h1, h2⟩ (fun H1 H2 e g => ⟨e.sqT g.1, ImmL.ext e _ _ g.2⟩) fun i H1 x y hi g hx hy => ?_
  cases hx
  obtain ⟨d, hd, im⟩ := g.2.get hy
  exact ⟨.int (i : Nat), d, by rw [enD_get, hd, Nat.zero_add]; rfl, rfl, im⟩
theorem it_enL {K : PySem.W.Frag} {H : Hp} {ds : List D} {vs : List V} {a : Addr} (h1 : FzL K H a vs) (h2 : ImmL K H ds vs) : ItOk K (Ite K a) (enD 0 ds) H := by
  refine it_pair (by rw [enD_len, ← h2.len]) (walk_enum.mono (G' := fun H => FzL K H a vs ∧ ImmL K H ds vs) (fun H g => g.1.seq) fun _ _ _ _ _ _ y => y) ⟨h1, h2⟩ (fun H1 H2 e g => ⟨e.fzL g.1, ImmL.ext e _ _ g.2⟩) fun i H1 x y hi g hx hy => ?_
  cases hx
  obtain ⟨d, hd, im⟩ := g.2.get hy
  exact ⟨.int (i : Nat), d, by rw [enD_get, hd, Nat.zero_add]; rfl, rfl, im⟩
theorem it_enS {K : PySem.W.Frag} {H : Hp} {ns : List Int} {a : Addr} (h1 : ScrL K H a (ns.map V.int)) : ItOk K (Ite K a) (enD 0 (ns.map .int)) H := by
  refine it_pair (n := (ns.map V.int).length) (by rw [enD_len, List.length_map, List.length_map]) (walk_enum.mono (G' := fun H => ScrL K H a (ns.map V.int)) (fun H g => g.seq) fun _ _ _ _ _ _ y => y) h1 (fun H1 H2 e g => e.scrL g) fun i H1 x y hi g hx hy => ?_
  cases hx
  obtain ⟨d, hd, im⟩ := (immL_map_int (K := K) (H := H1) ns).get hy
  exact ⟨.int (i : Nat), d, by rw [enD_get, hd, Nat.zero_add]; rfl, rfl, im⟩
def dSeq : D → Option (List D)
  | .tup ds => some ds
  | .lst ds => some ds
  | .scr ns => some (ns.map .int)
  | _ => none
def iEn (l : List Nat) (f : Ex) : Ix := fun ρ => eF l f ρ >>= fun p => liftO (dSeq p.1) >>= fun ds => .ok (enD 0 ds, p.2)
theorem aF_one {l : List Nat} {f : Ex} (ρ : Rho) : aF l (aCons f aNil) ρ = (eF l f ρ >>= fun p => Out.ok ([p.1], p.2)) := by
  unfold aF aCons aNil eF
  cases f ρ with
  | stuck => rfl
  | exc c ρ1 => rfl
  | ok p =>
    obtain ⟨s, ρ1⟩ := p
    show fzL l [s] ρ1 = (fz l s ρ1 >>= fun p => Out.ok ([p.1], p.2))
    simp only [fzL, bind_ok]
theorem i_en {p tpos : Pos} {elts : List Expr} {kk : Nat} {f : Ex} (hm : g.mg "enumerate" = none) (ha : EOk g e f) (hg : Glo g "enumerate" := by rfl) (hs : ∀ env, starEach [e] env = (false, eval e env) :: starEach [] env := by intro _; rfl) :
    IOk g (.Tuple elts kk tpos) (.Call (.Name "enumerate" p) [e] [] pos) (iEn g.ios f) := fun X W A tk => by
  refine PI.imp (pi_enumA (hg.gl A) (by rw [A.mg]; exact hm) ((a_cons ha a_nil hs).f A tk) (hs _)) fun σ H Q ⟨ρ, R, q⟩ => ?_
  have q : Pst X.K g σ H W (fun p H' => ER X.K g p.2 σ H' → ∀ J, ItOk X.K J p.1 H' → Q J H') (aF g.ios (aCons f aNil) ρ >>= fun p => liftO (match p.1 with | [d] => dSeq d | _ => none) >>= fun ds => .ok (enD 0 ds, p.2)) := by
    rw [aF_one]
    unfold iEn at q
    cases hf : eF g.ios f ρ with
    | stuck => rw [hf] at q; exact q.elim
    | exc c ρ1 => rw [hf] at q; exact q
    | ok p => rw [hf] at q; exact q
  refine tAF_step R q fun ds ρ1 xs H1 R1 E1 im q1 => ?_
  obtain ⟨es', hd, q2⟩ := q1.opt
  match ds, hd with
  | [d], hd =>
    obtain ⟨x, rfl, ix⟩ := immL_1 im
    cases d with
    | tup ds =>
      cases hd
      obtain ⟨a, vs, rfl, s1, i1⟩ := ix
      exact ⟨a, vs, rfl, .inr ⟨s1.seq, q2 H1 (Ext.refl _) R1 _ (it_enT s1 i1)⟩⟩
    | lst ds =>
      cases hd
      obtain ⟨a, vs, rfl, s1, i1⟩ := ix
      exact ⟨a, vs, rfl, .inl ⟨s1.seq, q2 H1 (Ext.refl _) R1 _ (it_enL s1 i1)⟩⟩
    | scr ns =>
      cases hd
      obtain ⟨a, rfl, s1⟩ := ix
      exact ⟨a, _, rfl, .inl ⟨s1.seq, q2 H1 (Ext.refl _) R1 _ (it_enS s1)⟩⟩
    | _ => cases hd
/-! ### zip -/
def zpD : List D → List D → List D
  | d :: ds, e :: es => .tup [d, e] :: zpD ds es
  | _, _ => []
theorem zpD_len : ∀ (ds es : List D), (zpD ds es).length = min ds.length es.length
  | [], _ => by simp [zpD]
  | d :: ds, [] => by simp [zpD]
  | d :: ds, e :: es => by simp only [zpD, List.length_cons, zpD_len ds es]; omega
theorem zpD_get : ∀ (ds es : List D) (i : Nat) (d e : D), ds[i]? = some d → es[i]? = some e → (zpD ds es)[i]? = some (.tup [d, e])
  | [], _, _, _, _, h, _ => by simp at h
  | d :: ds, [], _, _, _, _, h => by simp at h
  | d :: ds, e :: es, 0, _, _, h, h' => by simp at h h'; subst h; subst h'; rfl
  | d :: ds, e :: es, i + 1, d', e', h, h' => by
    rw [List.getElem?_cons_succ] at h h'
    rw [zpD, List.getElem?_cons_succ]
    exact zpD_get ds es i d' e' h h'
theorem walk_zipT {K : PySem.W.Frag} {a b : Addr} {xs ys : List V} : Walk (RZ.ItzT K a b) (min xs.length ys.length) (fun H => SqT K H a xs ∧ SqT K H b ys) (YPair (fun i => xs[i]?) (fun i => ys[i]?)) := by
  refine ⟨fun i _ hi q => ?_, fun _ q => ⟨xs, ys, q.1, q.2, by omega⟩, fun i H v H' _ q y => ?_⟩
  · have h1 : i < xs.length := by omega
    have h2 : i < ys.length := by omega
    exact ⟨xs, ys, xs[i], ys[i], q.1, q.2, by simp [h1], by simp [h2]⟩
  · obtain ⟨T, x, z, h1, h2, h3, h4, h5⟩ := y
    exact ⟨T, x, z, h1, h2, h3, h4 xs q.1, h5 ys q.2⟩
/-- what reads as a list: tracked locked, or the script -/
def LsR (K : PySem.W.Frag) (H : Hp) (d : D) (ds : List D) (a : Addr) (vs : List V) : Prop := (d = .lst ds ∧ FzL K H a vs ∧ ImmL K H ds vs) ∨ ∃ ns, d = .scr ns ∧ ds = ns.map .int ∧ vs = ns.map V.int ∧ ScrL K H a vs
theorem LsR.seq {K : PySem.W.Frag} {H : Hp} {d : D} {ds : List D} {a : Addr} {vs : List V} (h : LsR K H d ds a vs) : SqL K H a vs := by
  rcases h with ⟨_, h, _⟩ | ⟨ns, _, _, _, h⟩
  · exact h.seq
  · exact h.seq
theorem LsR.imm {K : PySem.W.Frag} {H : Hp} {d : D} {ds : List D} {a : Addr} {vs : List V} (h : LsR K H d ds a vs) : ImmL K H ds vs := by
  rcases h with ⟨_, _, h⟩ | ⟨ns, _, rfl, rfl, _⟩
  · exact h
  · exact immL_map_int ns
theorem LsR.ext {K : PySem.W.Frag} {H H' : Hp} (e : Ext H H') {d : D} {ds : List D} {a : Addr} {vs : List V} (h : LsR K H d ds a vs) : LsR K H' d ds a vs := by
  rcases h with ⟨h1, h2, h3⟩ | ⟨ns, h1, h2, h3, h4⟩
  · exact .inl ⟨h1, e.fzL h2, ImmL.ext e _ _ h3⟩
  · exact .inr ⟨ns, h1, h2, h3, e.scrL h4⟩
theorem ls_of {K : PySem.W.Frag} {H : Hp} {d : D} {ds : List D} {x : V} (h : Imm K H d x) (hd : dSeq d = some ds) (ht : ∀ es, d ≠ .tup es) : ∃ a vs, x = .ref a ∧ LsR K H d ds a vs := by
  cases d with
  | lst es => cases hd; obtain ⟨a, vs, rfl, h1, h2⟩ := h; exact ⟨a, vs, rfl, .inl ⟨rfl, h1, h2⟩⟩
  | scr ns => cases hd; obtain ⟨a, rfl, h1⟩ := h; exact ⟨a, _, rfl, .inr ⟨ns, rfl, rfl, rfl, h1⟩⟩
  | tup es => exact absurd rfl (ht es)
  | _ => cases hd
def isTupD : D → Bool
  | .tup _ => true
  | _ => false
def zip2 : List D → Option (List D)
  | [d, e] => if isTupD d = isTupD e then (dSeq d).bind fun ds => (dSeq e).map fun es => zpD ds es else none
  | _ => none
def iZp (l : List Nat) (fa : Ax) : Ix := fun ρ => aF l fa ρ >>= fun p => liftO (zip2 p.1) >>= fun ds => .ok (ds, p.2)
theorem it_zp {K : PySem.W.Frag} {H : Hp} {J : It} {ds es : List D} {xs ys : List V} {G : Hp → Prop} (w : Walk J (min xs.length ys.length) G (YPair (fun i => xs[i]?) (fun i => ys[i]?))) (g : G H) (gs : ∀ H1 H2, Ext H1 H2 → G H1 → G H2) (h1 : ∀ H, G H → ImmL K H ds xs) (h2 : ∀ H, G H → ImmL K H es ys) : ItOk K J (zpD ds es) H := by
  refine it_pair (by rw [zpD_len, (h1 H g).len, (h2 H g).len]) w g gs fun i H1 x y hi g1 hx hy => ?_
  obtain ⟨d, hd, i1⟩ := (h1 H1 g1).get hx
  obtain ⟨e, he, i2⟩ := (h2 H1 g1).get hy
  exact ⟨d, e, zpD_get ds es i d e hd he, i1, i2⟩
theorem i_zp {p tpos : Pos} {elts : List Expr} {kk : Nat} {fa : Ax} (hm : g.mg "zip" = none) (ha : AOk g [a, b] fa) (hg : Glo g "zip" := by rfl) (hs : ∀ env, starEach [a, b] env = (false, eval a env) :: starEach [b] env := by intro _; rfl) (hpl : ∀ env, (backTo pos (starEach [b] env)).any (·.1) = false := by intro _; rfl) :
    IOk g (.Tuple elts kk tpos) (.Call (.Name "zip" p) [a, b] [] pos) (iZp g.ios fa) := fun X W A tk => by
  refine PI.imp (RZ.pi_zipA (hg.gl A) (by rw [A.mg]; exact hm) (ha.f A tk) (hs _) (hpl _)) fun σ H Q ⟨ρ, R, q⟩ => ?_
  refine tAF_step R q fun ds ρ1 xs H1 R1 E1 im q1 => ?_
  obtain ⟨ps, hd, q2⟩ := q1.opt
  match ds, hd with
  | [d, e], hd =>
    obtain ⟨x, y, rfl, ix, iy⟩ := immL_2 im
    simp only [zip2] at hd
    split at hd
    case isFalse => cases hd
    rename_i ht
    cases h1 : dSeq d with
    | none => rw [h1] at hd; cases hd
    | some ds =>
      cases h2 : dSeq e with
      | none => rw [h1, h2] at hd; cases hd
      | some es =>
        rw [h1, h2] at hd
        cases hd
        by_cases hT : isTupD d = true
        · have hT' := ht.symm.trans hT
          cases d <;> cases hT
          cases e <;> cases hT'
          cases h1
          cases h2
          obtain ⟨a1, v1, rfl, s1, i1⟩ := ix
          obtain ⟨a2, v2, rfl, s2, i2⟩ := iy
          exact ⟨a1, a2, v1, v2, rfl, .inr ⟨s1.seq, s2.seq, q2 H1 (Ext.refl _) R1 _ (it_zp (walk_zipT.mono (G' := fun H => (TpT X.K H a1 v1 ∧ ImmL X.K H ds v1) ∧ TpT X.K H a2 v2 ∧ ImmL X.K H es v2) (fun H g => ⟨g.1.1.seq, g.2.1.seq⟩) fun _ _ _ _ _ _ y => y) ⟨⟨s1, i1⟩, s2, i2⟩ (fun _ _ e g => ⟨⟨e.sqT g.1.1, ImmL.ext e _ _ g.1.2⟩, e.sqT g.2.1, ImmL.ext e _ _ g.2.2⟩) (fun _ g => g.1.2) fun _ g => g.2.2)⟩⟩
        · have hT' : ¬ isTupD e = true := fun z => hT (ht.trans z)
          obtain ⟨a1, v1, rfl, s1⟩ := ls_of ix h1 fun es z => hT (by rw [z]; rfl)
          obtain ⟨a2, v2, rfl, s2⟩ := ls_of iy h2 fun es z => hT' (by rw [z]; rfl)
          exact ⟨a1, a2, v1, v2, rfl, .inl ⟨s1.seq, s2.seq, q2 H1 (Ext.refl _) R1 _ (it_zp ((walk_zip rfl).mono (G' := fun H => LsR X.K H d ds a1 v1 ∧ LsR X.K H e es a2 v2) (fun H g => ⟨g.1.seq, g.2.seq⟩) fun _ _ _ _ _ _ y => y) ⟨s1, s2⟩ (fun _ _ e g => ⟨g.1.ext e, g.2.ext e⟩) (fun _ g => g.1.imm) fun _ g => g.2.imm)⟩⟩
end
end PL

/-! defs with one in-out parameter: an own object of the caller that the def may change -/
namespace PL
open PySem PySem.Spec PyProof.Rows L2
theorem ER.putW {K : PySem.W.Frag} {g : Cf} {ρ : Rho} {σ : L2.St} {H H' : Hp} {i : Nat} {d d' : D} {a : Addr} (R : ER K g ρ σ H) (hi : ρ[i]? = some (some (.o d))) (ha : σ[i]? = some (some (.ref a))) (e : ∀ b o, b ≠ a → H b = some o → H' b = some o) (x : Ext H H') (o : OwnAt K H' a d') : ER K g (putO ρ i d') σ H' := by
  have hlt : i < ρ.length := by
    rcases Nat.lt_or_ge i ρ.length with z | z
    · exact z
    · rw [List.getElem?_eq_none z] at hi; cases hi
  have gρ : ∀ j, (putO ρ i d')[j]? = if j = i then some (some (.o d')) else ρ[j]? := fun j => by
    unfold putO
    by_cases hj : j = i
    · subst hj; rw [if_pos rfl, List.getElem?_set_self hlt]
    · rw [if_neg hj, List.getElem?_set_ne (Ne.symm hj)]
  have un : ∀ {j : Nat} {dj : D}, (putO ρ i d')[j]? = some (some (S.o dj)) → ∃ dk : D, ρ[j]? = some (some (S.o dk)) := fun {j dj} h => by
    rw [gρ] at h
    by_cases hj : j = i
    · subst hj; exact ⟨d, hi⟩
    · rw [if_neg hj] at h; exact ⟨_, h⟩
  refine ⟨by unfold putO; rw [List.length_set]; exact R.len, fun j dj h => ?_, fun j dj h => ?_, fun j m h => ?_, fun j m dj dm b h1 h2 h3 h4 => ?_, fun b ob h q => ?_, fun j dj b h1 h2 => ?_, fun p hp => ?_⟩
  · rw [gρ] at h
    by_cases hj : j = i
    · rw [if_pos hj] at h; cases h
    · rw [if_neg hj] at h
      obtain ⟨y, h1, h2⟩ := R.val j dj h
      exact ⟨y, h1, Imm.ext x _ _ h2⟩
  · rw [gρ] at h
    by_cases hj : j = i
    · rw [if_pos hj] at h; cases h; subst hj; exact ⟨a, ha, o⟩
    · rw [if_neg hj] at h
      obtain ⟨b, h1, h2⟩ := R.own j dj h
      have hb : b ≠ a := fun z => hj (R.sep j i dj d a h hi (z ▸ h1) ha)
      obtain ⟨u, hu, _⟩ := h2.some
      exact ⟨b, h1, h2.ext x ((e b u hb hu).trans hu.symm)⟩
  · rw [gρ] at h
    by_cases hj : j = i
    · rw [if_pos hj] at h; cases h
    · rw [if_neg hj] at h; exact R.bor j m h
  · obtain ⟨k1, h1'⟩ := un h1
    obtain ⟨k2, h2'⟩ := un h2
    exact R.sep j m k1 k2 b h1' h2' h3 h4
  · have hb : b ≠ a := fun z => by
      subst z
      rcases R.new i d b hi ha with h0 | h0
      · rw [h0] at h; cases h
      · exact q _ h0 rfl
    exact e b ob hb (R.old b ob h q)
  · obtain ⟨k1, h1'⟩ := un h1
    exact R.new j k1 b h1' h2
  · obtain ⟨h1, dj, h2⟩ := R.io p hp
    refine ⟨h1, ?_⟩
    rw [gρ]
    by_cases hj : p.1 = i
    · rw [if_pos hj]; exact ⟨_, rfl⟩
    · rw [if_neg hj]; exact ⟨_, h2⟩
/-- what a def with an in-out parameter computes: its result, the parameter behind it -/
abbrev Fn1 := List D → Out (S × D)
def sp1 (K : PySem.W.Frag) (n j0 : Nat) (F : Fn1) : Sp := fun vs H Q E => ∃ (ds : List D) (a : Addr) (d : D), ds.length = n ∧ vs.length = n ∧ ds[j0]? = some d ∧ vs[j0]? = some (.ref a) ∧ OwnAt K H a d ∧
  (∀ k d', k ≠ j0 → ds[k]? = some d' → ∃ x, vs[k]? = some x ∧ Imm K H d' x) ∧ (match F ds with
  | .ok (s, d2) => ∀ H' x, Ext H H' → (∀ b o, b ≠ a → H b = some o → H' b = some o) → OwnAt K H' a d2 → RS K H H' s x → Q x H'
  | _ => False)
def rho1 : Nat → List D → Rho
  | _, [] => []
  | 0, d :: ds => some (.o d) :: ds.map fun d => some (.v d)
  | j + 1, d :: ds => some (.v d) :: rho1 j ds
def end1 (j0 : Nat) : Fl → Out (S × D)
  | .ret s ρ' => liftO (ownD ρ' j0) >>= fun d => .ok (s, d)
  | .next ρ' => liftO (ownD ρ' j0) >>= fun d => .ok (.v .non, d)
  | _ => .stuck
theorem end1_r (j0 : Nat) (s : S) (ρ' : Rho) : end1 j0 (.ret s ρ') = (liftO (ownD ρ' j0) >>= fun d => .ok (s, d)) := rfl
theorem end1_n (j0 : Nat) (ρ' : Rho) : end1 j0 (.next ρ') = (liftO (ownD ρ' j0) >>= fun d => .ok (.v .non, d)) := rfl
def run1 (j0 m : Nat) (f : Sx) : Fn1 := fun ds => f (rho1 j0 ds ++ List.replicate m none) >>= end1 j0
theorem rho1_len : ∀ (j : Nat) (ds : List D), (rho1 j ds).length = ds.length
  | _, [] => by simp [rho1]
  | 0, d :: ds => by simp [rho1]
  | j + 1, d :: ds => by simp [rho1, rho1_len j ds]
theorem rho1_get : ∀ (j : Nat) (ds : List D) (i : Nat), (rho1 j ds)[i]? = ds[i]?.map fun d => some (if i = j then .o d else .v d)
  | _, [], i => by simp [rho1]
  | 0, d :: ds, 0 => by simp [rho1]
  | 0, d :: ds, i + 1 => by simp [rho1]
  | j + 1, d :: ds, 0 => by simp [rho1]
  | j + 1, d :: ds, i + 1 => by
    rw [rho1, List.getElem?_cons_succ, List.getElem?_cons_succ, rho1_get j ds i]
    by_cases h : i = j <;> simp [h]
theorem rho1_some {j m i : Nat} {ds : List D} {s : S} (h : (rho1 j ds ++ List.replicate m none)[i]? = some (some s)) : ∃ d, ds[i]? = some d ∧ s = if i = j then .o d else .v d := by
  rcases Nat.lt_or_ge i (rho1 j ds).length with hi | hi
  · rw [List.getElem?_append_left hi, rho1_get] at h
    cases hd : ds[i]? with
    | none => rw [hd] at h; cases h
    | some d => rw [hd] at h; cases h; exact ⟨d, rfl, rfl⟩
  · rw [List.getElem?_append_right hi, List.getElem?_replicate] at h
    split at h <;> cases h
theorem start_get {N : List Str} {vs : List V} {i : Nat} {x : V} (h : vs[i]? = some x) : (L2.start N vs)[i]? = some (some x) := by
  have hi : i < vs.length := by
    rcases Nat.lt_or_ge i vs.length with z | z
    · exact z
    · rw [List.getElem?_eq_none z] at h; cases h
  unfold L2.start
  rw [List.getElem?_append_left (by simpa using hi), List.getElem?_map, h]
  rfl
theorem fn1_ok {P : Program} {w : World} {K : PySem.W.Frag} {mg : Str → Option Value} {base : Heap} {x qual : Str} {st : Stmt} {fa : Addr} {fd : FuncData} {N ps : List Str} {k n m j0 : Nat} {f : Sx} (F : L2.Fun K x qual st fa fd) (S : FnScope N ps (defScope st)) (hn : ps.length = n) (hm : N.length = n + m)
    (hb : ∀ H0 a, SsOk ⟨P, w, K, mg, base, N, defScope st, fun _ => true, k, H0, [(j0, a)]⟩ (defBody st) f) : FnOk P w K mg base (L2.CX P w) (k + 1) fa fd ps (sp1 K n j0 (run1 j0 m f)) := by
  refine F.okX S (fun vs H Q E ⟨ds, a, d, h1, h2, _⟩ => by rw [h2, hn]) (fun cdv A outer s H vs Q E hr ⟨ds, a, d, h1, h2, hd, hv, ho, hi, h3⟩ => ?_)
  have AA : AtS ⟨P, w, K, mg, base, N, defScope st, fun _ => true, k, H, [(j0, a)]⟩ (cxOf (L2.CX P w) P w K mg base N qual (defScope st) fa cdv A outer s H E) :=
    { prog := rfl, w := rfl, K := rfl, mg := rfl, base := rfl, N := rfl, sc := rfl, fn := fun _ _ => rfl, room := hr, calm := rfl, own := passes_of rfl, stk := rfl, fr := rfl }
  have R0 : ER K ⟨P, w, K, mg, base, N, defScope st, fun _ => true, k, H, [(j0, a)]⟩ (rho1 j0 ds ++ List.replicate m none) (L2.start N vs) H := by
    refine ⟨?_, fun i d' e => ?_, fun i d' e => ?_, fun i j e => ?_, fun i j d1 d2 b e1 e2 e3 e4 => ?_, fun b o h _ => h, fun i d' b e1 e2 => ?_, fun p hp => ?_⟩
    · simp only [L2.start, List.length_append, List.length_map, List.length_replicate, rho1_len, h1, h2, hm]; omega
    · obtain ⟨d1, h4, h5⟩ := rho1_some e
      by_cases hij : i = j0
      · rw [if_pos hij] at h5; cases h5
      · rw [if_neg hij] at h5; cases h5
        obtain ⟨y, h6, h7⟩ := hi i _ hij h4
        exact ⟨y, start_get h6, h7⟩
    · obtain ⟨d1, h4, h5⟩ := rho1_some e
      by_cases hij : i = j0
      · rw [if_pos hij] at h5; cases h5
        subst hij
        rw [hd] at h4; cases h4
        exact ⟨a, start_get hv, ho⟩
      · rw [if_neg hij] at h5; cases h5
    · obtain ⟨d1, h4, h5⟩ := rho1_some e
      split at h5 <;> cases h5
    · obtain ⟨_, _, h5⟩ := rho1_some e1
      obtain ⟨_, _, h6⟩ := rho1_some e2
      by_cases hi1 : i = j0
      · by_cases hj1 : j = j0
        · rw [hi1, hj1]
        · rw [if_neg hj1] at h6; cases h6
      · rw [if_neg hi1] at h5; cases h5
    · obtain ⟨_, _, h5⟩ := rho1_some e1
      by_cases hi1 : i = j0
      · subst hi1
        rw [start_get hv] at e2
        cases e2
        exact .inr (List.mem_singleton_self _)
      · rw [if_neg hi1] at h5; cases h5
    · cases List.mem_singleton.mp hp
      refine ⟨start_get hv, d, ?_⟩
      rw [List.getElem?_append_left (by rw [rho1_len]; exact (List.getElem?_eq_some_iff.mp hd).1), rho1_get, hd]
      simp
  refine ⟨_, hb H a _ (fun cls d _ H' => E cls d H') AA (takes_of rfl rfl rfl rfl), ⟨_, R0, ?_⟩⟩
  have same : ∀ {ρ' : Rho} {σ' : L2.St} {H' : Hp}, ER K ⟨P, w, K, mg, base, N, defScope st, fun _ => true, k, H, [(j0, a)]⟩ ρ' σ' H' → (∀ b o, b ≠ a → H b = some o → H' b = some o) := fun {ρ' σ' H'} R b o hb e => R.old b o e (fun p hp => by cases List.mem_singleton.mp hp; exact Ne.symm hb)
  have own : ∀ {ρ' : Rho} {σ' : L2.St} {H' : Hp} {d2 : D}, ER K ⟨P, w, K, mg, base, N, defScope st, fun _ => true, k, H, [(j0, a)]⟩ ρ' σ' H' → ownD ρ' j0 = some d2 → OwnAt K H' a d2 := fun {ρ' σ' H' d2} R h => by
    obtain ⟨b, h4, h5⟩ := R.own j0 d2 (ownD_is h)
    obtain ⟨h6, _⟩ := R.io (j0, a) (List.mem_singleton_self _)
    rw [h6] at h4; cases h4
    exact h5
  unfold run1 at h3
  cases hf : f (rho1 j0 ds ++ List.replicate m none) with
  | stuck => rw [hf] at h3; exact h3.elim
  | exc c ρ1 => rw [hf] at h3; exact h3.elim
  | ok r =>
    rw [hf] at h3
    cases r with
    | next ρ' =>
      rw [bind_ok, end1_n] at h3
      cases hw : ownD ρ' j0 with
      | none => rw [hw] at h3; exact h3.elim
      | some d2 => rw [hw] at h3; exact fun σ' H' e' R => h3 H' .non e' (same R) (own R hw) rfl
    | ret z ρ' =>
      rw [bind_ok, end1_r] at h3
      cases hw : ownD ρ' j0 with
      | none => rw [hw] at h3; exact h3.elim
      | some d2 => rw [hw] at h3; exact fun σ' H' y e' R b => h3 H' y e' (same R) (own R hw) (br_rs rfl b)
    | brk ρ' => exact h3.elim
    | cnt ρ' => exact h3.elim
/-- arguments, the j-th one by its slot -/
def fzX (l : List Nat) : Nat → List S → Rho → Out (List D × Nat × Rho)
  | _, [], _ => .stuck
  | 0, .b i :: ss, ρ => fzL l ss ρ >>= fun q => .ok (.non :: q.1, i, q.2)
  | 0, _ :: _, _ => .stuck
  | j + 1, s :: ss, ρ => fz l s ρ >>= fun p => fzX l j ss p.2 >>= fun q => .ok (p.1 :: q.1, q.2.1, q.2.2)
theorem fzX_s (l : List Nat) (j : Nat) (s : S) (ss : List S) (ρ : Rho) : fzX l (j + 1) (s :: ss) ρ = (fz l s ρ >>= fun p => fzX l j ss p.2 >>= fun q => .ok (p.1 :: q.1, q.2.1, q.2.2)) := by cases s <;> rfl
theorem fzX_ok {X : Cx} {g : Cf} {pins : List (Addr × Obj)} {σ : L2.St} {s : Shared} : ∀ {j : Nat} {zs : List S} {xs : List V} {H : Hp} {ρ ρ' : Rho} {ds : List D} {i : Nat}, Inv X pins σ H s → ER X.K g ρ σ H → NRL X.K σ H zs xs → fzX g.ios j zs ρ = .ok (ds, i, ρ') →
    ∃ H', Inv X pins σ H' s ∧ ER X.K g ρ' σ H' ∧ Ext H H' ∧ (∃ x, xs[j]? = some x ∧ σ[i]? = some (some x)) ∧ xs.length = ds.length ∧ j < ds.length ∧ ∀ k d, k ≠ j → ds[k]? = some d → ∃ x, xs[k]? = some x ∧ Imm X.K H' d x
  | j, [], xs, H, ρ, ρ', ds, i, I, R, n, h => by cases j <;> cases h
  | 0, z :: zs, xs, H, ρ, ρ', ds, i, I, R, ⟨y, r, h1, h2, h3⟩, h => by
    subst h1
    cases z with
    | v d => cases h
    | o d => cases h
    | b i' =>
      unfold fzX at h
      obtain ⟨q, hq, h⟩ := bind_is h
      cases h
      obtain ⟨H1, I1, R1, E1, im⟩ := fzL_ok I R h3 (ds := q.1) (ρ' := q.2) hq
      refine ⟨H1, I1, R1, E1, ⟨y, rfl, h2⟩, by rw [List.length_cons, List.length_cons, im.len], by simp, fun k d hk hd => ?_⟩
      cases k with
      | zero => exact absurd rfl hk
      | succ k =>
        rw [List.getElem?_cons_succ] at hd ⊢
        exact im.get' hd
  | j + 1, z :: zs, xs, H, ρ, ρ', ds, i, I, R, ⟨y, r, h1, h2, h3⟩, h => by
    subst h1
    rw [fzX_s] at h
    obtain ⟨p, hp, h⟩ := bind_is h
    obtain ⟨q, hq, h⟩ := bind_is h
    cases h
    obtain ⟨H1, I1, R1, E1, im⟩ := fz_ok I R h2 (d := p.1) (ρ' := p.2) hp
    obtain ⟨H2, I2, R2, E2, ⟨x, hx1, hx2⟩, hl, hj, hk⟩ := fzX_ok I1 R1 (NRL.ext E1 h3) (ds := q.1) (i := q.2.1) (ρ' := q.2.2) hq
    refine ⟨H2, I2, R2, E1.trans E2, ⟨x, by simpa using hx1, hx2⟩, by rw [List.length_cons, List.length_cons, hl], by rw [List.length_cons]; omega, fun k d hkj hd => ?_⟩
    cases k with
    | zero =>
      rw [List.getElem?_cons_zero] at hd
      cases hd
      exact ⟨y, rfl, Imm.ext E2 _ _ im⟩
    | succ k =>
      rw [List.getElem?_cons_succ] at hd ⊢
      exact hk k d (fun z => hkj (by rw [z])) hd
theorem fzX_noexc {l : List Nat} : ∀ {j : Nat} {ss : List S} {ρ ρ' : Rho} {c : Str}, fzX l j ss ρ = .exc c ρ' → False
  | j, [], _, _, _, h => by cases j <;> cases h
  | 0, z :: ss, ρ, ρ', c, h => by
    cases z with
    | v d => cases h
    | o d => cases h
    | b i =>
      unfold fzX at h
      cases hs : fzL l ss ρ with
      | stuck => rw [hs] at h; cases h
      | exc c ρ' => exact fzL_noexc hs
      | ok p => rw [hs] at h; cases h
  | j + 1, z :: ss, ρ, ρ', c, h => by
    rw [fzX_s] at h
    cases hs : fz l z ρ with
    | stuck => rw [hs] at h; cases h
    | exc c ρ' => exact fz_noexc hs
    | ok p =>
      rw [hs, bind_ok] at h
      cases hr : fzX l j ss p.2 with
      | stuck => rw [hr] at h; cases h
      | exc c ρ' => exact fzX_noexc hr
      | ok q => rw [hr] at h; cases h
structure Cal1 (g : Cf) (x : Str) (n j0 : Nat) (F : Fn1) : Prop where
  ex : ∃ (f : Addr) (fd : FuncData) (ps : List Str), FnOk g.prog g.w g.K g.mg g.base (L2.CX g.prog g.w) g.k f fd ps (sp1 g.K n j0 F) ∧ g.mg x = some (.ref f) ∧ PySem.W.keepIn g.K (.ref f) = true ∧ Binds g.K fd ps []
def eCall1 (l : List Nat) (n j0 : Nat) (F : Fn1) (fa : Ax) : Ex := fun ρ => fa ρ >>= fun p => fzX l j0 p.1 p.2 >>= fun q => liftO (ownD q.2.2 q.2.1) >>= fun d => if q.1.length = n then F (q.1.set j0 d) >>= fun r => .ok (r.1, putO q.2.2 q.2.1 r.2) else .stuck
section
variable {g : Cf} {X : Cx} {e a b c : Expr} {es : List Expr} {pos : Pos} {K : PySem.W.Frag} {W : WX}
/-- from a wish behind F: F comes to an end, without raising -/
theorem Pst.ok1 {β γ : Type} {σ : L2.St} {H : Hp} {G : β → Hp → Prop} {F : Out γ} {k : γ → Out β} (hn : ∀ c ρ, F = .exc c ρ → False) (q : Pst K g σ H W G (F >>= k)) : ∃ r, F = .ok r ∧ Pst K g σ H W G (k r) := by
  cases hF : F with
  | stuck => rw [hF] at q; exact q.elim
  | exc c ρ => exact (hn c ρ hF).elim
  | ok r => rw [hF] at q; exact ⟨r, rfl, q⟩
def noX : Out (S × D) → Out (S × D)
  | .ok r => .ok r
  | _ => .stuck
theorem e_call1 {x : Str} {p : Pos} {n j0 : Nat} {F : Fn1} {fa : Ax} (hc : Cal1 g x n j0 F) (ha : AOk g (e :: es) fa) (hg : Glo g x := by rfl) (hdb : (x == ("__debug__" : Str)) = false := by decide)
    (he : ∀ env, starEach (e :: es) env = (false, eval e env) :: starEach es env := by intro _; rfl) (hpl : ∀ env, (backTo pos (starEach es env)).any (·.1) = false := by intro _; rfl) : EOk g (.Call (.Name x p) (e :: es) [] pos) (eCall1 g.ios n j0 (fun ds => noX (F ds)) fa) := fun X W A tk => by
  obtain ⟨f, fd, ps, h1, h2, h3, h4⟩ := hc.ex
  have h1' : FnOk X.prog X.w X.K X.mg X.base (L2.CX X.prog X.w) g.k f fd ps (sp1 X.K n j0 F) := by rw [A.prog, A.w, A.K, A.mg, A.base]; exact h1
  -- the arguments, mixed
  let tM : TA := fun σ H Q => ∃ ρ, ER X.K g ρ σ H ∧ Pst X.K g σ H W (fun (q : List D × Nat × Rho) H' => ER X.K g q.2.2 σ H' → ∀ xs, (∃ x, xs[j0]? = some x ∧ σ[q.2.1]? = some (some x)) → xs.length = q.1.length → j0 < q.1.length → (∀ k d, k ≠ j0 → q.1[k]? = some d → ∃ x, xs[k]? = some x ∧ Imm X.K H' d x) → Q xs H') (fa ρ >>= fun p => fzX g.ios j0 p.1 p.2)
  have hM : PA X (e :: es) tM := by
    refine ⟨fun pos pins s σ H Q I ⟨ρ, R, q⟩ => ?_⟩
    cases hfa : fa ρ with
    | stuck => rw [hfa] at q; exact q.elim
    | exc c ρ' =>
      rw [hfa] at q
      exact (ha X W A tk).run pos pins s σ H Q I ⟨ρ, R, by rw [hfa]; exact q⟩
    | ok p =>
      rw [hfa, bind_ok] at q
      refine thn ((ha X W A tk).run pos pins s σ H (fun xs H1 => ER X.K g p.2 σ H1 ∧ Ext H H1 ∧ NRL X.K σ H1 p.1 xs) I ⟨ρ, R, by rw [hfa]; exact fun H' b a x c => ⟨a, b, c⟩⟩) fun us s1 ⟨xs, H1, I1, r1, R1, e1, nr⟩ => ?_
      cases hz : fzX g.ios j0 p.1 p.2 with
      | stuck => rw [hz] at q; exact q.elim
      | exc c ρ' => exact (fzX_noexc hz).elim
      | ok z =>
        obtain ⟨ds, i, ρ'⟩ := z
        rw [hz] at q
        obtain ⟨H2, I2, R2, E2, hx, hl, hj, hk⟩ := fzX_ok I1 R1 nr hz
        exact ⟨xs, H2, I2, r1, q H2 (e1.trans E2) R2 xs hx hl hj hk⟩
  refine PE.imp (pe_callS h1' A.room (hg.gl A) (by rw [A.mg]; exact h2) (by rw [A.K]; exact h3) (by rw [A.K]; exact h4) (fun σ => passAt tk σ) hM hdb (he _) (hpl _)) fun σ H Q ⟨ρ, R, q⟩ => ⟨ρ, R, ?_⟩
  unfold eCall1 at q
  cases hfa : fa ρ with
  | stuck => rw [hfa] at q; exact q.elim
  | exc c ρ' => rw [hfa] at q; exact q
  | ok p =>
    rw [hfa, bind_ok] at q
    rw [bind_ok]
    cases hz : fzX g.ios j0 p.1 p.2 with
    | stuck => rw [hz] at q; exact q.elim
    | exc c ρ' => exact (fzX_noexc hz).elim
    | ok z =>
      obtain ⟨ds, i, ρ'⟩ := z
      rw [hz, bind_ok] at q
      intro H1 E1 R1 xs ⟨x, hx1, hx2⟩ hl hj hk
      obtain ⟨d, hd, q2⟩ := q.opt
      split at q2
      case isFalse => exact q2.elim
      rename_i hlen
      have hi := ownD_is hd
      obtain ⟨ad, ha1, ho⟩ := R1.own i d hi
      rw [hx2] at ha1
      cases ha1
      refine ⟨ds.set j0 d, ad, d, by rw [List.length_set]; exact hlen, by rw [hl]; exact hlen, List.getElem?_set_self hj, hx1, ho, fun k d' hkj hd' => ?_, ?_⟩
      · rw [List.getElem?_set_ne (Ne.symm hkj)] at hd'
        exact hk k d' hkj hd'
      · cases hF : F (ds.set j0 d) with
        | stuck => simp only [hF, noX] at q2; exact q2.elim
        | exc c ρ2 => simp only [hF, noX] at q2; exact q2.elim
        | ok r =>
          obtain ⟨s, d2⟩ := r
          simp only [hF, noX, bind_ok] at q2
          intro H' y E2 keep o2 rs
          have R2 := R1.putW hi hx2 keep E2 o2
          refine q2 H' (E1.trans E2) R2 y ?_
          cases s with
          | v d' => exact rs
          | o d' =>
            obtain ⟨b, e1, h0, h5⟩ := rs
            refine ⟨b, e1, h5, fun ⟨j, dj, k1, k2⟩ => ?_, not_old R1 h0⟩
            have : ∃ dk : D, ρ'[j]? = some (some (S.o dk)) := by
              unfold putO at k1
              by_cases hj : j = i
              · subst hj; exact ⟨d, hi⟩
              · rw [List.getElem?_set_ne (Ne.symm hj)] at k1; exact ⟨_, k1⟩
            obtain ⟨dk, k3⟩ := this
            exact not_own R1 h0 ⟨j, dk, k3, k2⟩
          | b j => exact rs.elim
end
structure Cal01 (P : Program) (w : World) (K : PySem.W.Frag) (mg : Str → Option Value) (base : Heap) (k : Nat) (x : Str) (n j0 : Nat) (F : Fn1) : Prop where
  ex : ∃ (f : Addr) (fd : FuncData) (ps : List Str), FnOk P w K mg base (L2.CX P w) k f fd ps (sp1 K n j0 F) ∧ mg x = some (.ref f) ∧ PySem.W.keepIn K (.ref f) = true ∧ Binds K fd ps []
theorem Cal01.cal {P : Program} {w : World} {K : PySem.W.Frag} {mg : Str → Option Value} {base : Heap} {j k : Nat} {x : Str} {n j0 : Nat} {F : Fn1} (h : Cal01 P w K mg base j x n j0 F) (hk : j ≤ k) {N : List Str} {sc : Scope} {fn : Str → Bool} {H0 : Hp} {io : List (Nat × Addr)} : Cal1 ⟨P, w, K, mg, base, N, sc, fn, k, H0, io⟩ x n j0 F := by
  obtain ⟨f, fd, ps, h1, h2⟩ := h.ex
  exact ⟨f, fd, ps, h1.mono hk, h2⟩
theorem Cal01.of {P : Program} {w : World} {K : PySem.W.Frag} {mg : Str → Option Value} {base : Heap} {k : Nat} {x : Str} {n m j0 : Nat} {f : Sx} {st : Stmt} {N ps : List Str} (T : FnT K mg x st ps) (S : FnScope N ps (defScope st)) (hn : ps.length = n) (hm : N.length = n + m)
    (hb : ∀ H0 a, SsOk ⟨P, w, K, mg, base, N, defScope st, fun _ => true, k, H0, [(j0, a)]⟩ (defBody st) f) : Cal01 P w K mg base (k + 1) x n j0 (run1 j0 m f) := by
  obtain ⟨fa, fd, h1, h2, h3, h4⟩ := T
  exact ⟨fa, fd, ps, fn1_ok h2 S hn hm hb, h1, h3, h4⟩
end PL

namespace PL
open PySem PySem.Spec PyProof.Rows L2
section
variable {g : Cf} {X : Cx} {e a b c o f : Expr} {es : List Expr} {pos : Pos}
/-! ### more of dicts -/
def eDNew (t : Bool) : Ex := fun ρ => .ok (.o (.dic t []), ρ)
theorem e_dnewK : EOk g (.Dict [] [] pos) (eDNew false) := fun X W A tk =>
  PE.imp pe_dnewK fun σ H Q ⟨ρ, R, q⟩ => fun p hp => q _ (Ext.of_same (new_tup (K := X.K) hp)) (R.same (new_tup (K := X.K) hp)) _ ⟨p, rfl, ⟨_, upd_same, rfl⟩, not_own R hp, not_old R hp⟩
theorem e_dnewT : EOk g (.Dict [] [] pos) (eDNew true) := fun X W A tk =>
  PE.imp pe_dnewT fun σ H Q ⟨ρ, R, q⟩ => fun p hp => q _ (Ext.of_same (new_tup (K := X.K) hp)) (R.same (new_tup (K := X.K) hp)) _ ⟨p, rfl, ⟨_, upd_same, rfl⟩, not_own R hp, not_old R hp⟩
def dGet (d k : D) : Option (Option D) := match d with
  | .dic t kvs => (kOf t k).map (gGet t kvs)
  | _ => none
def isDic : D → Option Unit
  | .dic _ _ => some ()
  | _ => none
def eGet2 (l : List Nat) (fo fk fx : Ex) : Ex := fun ρ => fo ρ >>= fun p => PL.pk p.2 p.1 >>= fun d0 => liftO (isDic d0) >>= fun _ => fk p.2 >>= fun q => eF l fx q.2 >>= fun r => PL.pk r.2 p.1 >>= fun d => PL.pk r.2 q.1 >>= fun k => liftO (dGet d k) >>= fun o => .ok (.v (o.getD r.1), r.2)
def eGet1 (fo fk : Ex) : Ex := fun ρ => fo ρ >>= fun p => PL.pk p.2 p.1 >>= fun d0 => liftO (isDic d0) >>= fun _ => fk p.2 >>= fun q => PL.pk q.2 p.1 >>= fun d => PL.pk q.2 q.1 >>= fun k => liftO (dGet d k) >>= fun o => .ok (.v (o.getD .non), q.2)
theorem isDic_is {d : D} {u : Unit} (h : isDic d = some u) : ∃ t kvs, d = .dic t kvs := by
  cases d <;> first | exact ⟨_, _, rfl⟩ | cases h
theorem dGet_is {K : PySem.W.Frag} {H : Hp} {d k : D} {x y : V} {od : Option D} (h : dGet d k = some od) (r1 : Rd K H d x) (r2 : Rd K H k y) : ∃ a o, x = .ref a ∧ DGet H a y o ∧ ImmO K H od o := by
  unfold dGet at h
  split at h
  · rename_i t kvs
    cases e : kOf t k with
    | none => rw [e] at h; cases h
    | some kk => rw [e] at h; cases h; exact dget_of r1 r2 e
  · cases h
theorem ImmO.getD {K : PySem.W.Frag} {H : Hp} {d : D} {z : V} : ∀ {od : Option D} {o : Option V}, ImmO K H od o → Imm K H d z → Imm K H (od.getD d) (o.getD z)
  | none, _, h, im => by cases (show _ = _ from h); exact im
  | some d', _, ⟨v, e, h⟩, im => by subst e; exact h
theorem e_get2 {apos cpos : Pos} {fo fk fx : Ex} (ho : EOk g o fo) (hk : EOk g e fk) (hx : EOk g f fx) (hm : ∀ X : Cx, M2 X o "get" apos e f cpos := by intro X; exact ⟨rfl, rfl, rfl, rfl⟩) : EOk g (.Call (.Attribute o "get" apos) [e, f] [] cpos) (eGet2 g.ios fo fk fx) := fun X W A tk => by
  refine PE.imp (pe_dget2 (by have := A.room.un; omega) (ho.n A tk) (hk.n A tk) (hx.f A tk) (hm X)) fun σ H Q ⟨ρ, R, q⟩ => ?_
  refine tN_step R q fun s1 ρ1 x H1 R1 E1 n1 q1 => ?_
  obtain ⟨d0, h0, q2⟩ := q1.pk
  obtain ⟨u, hu, q3⟩ := q2.opt
  obtain ⟨t, kvs, rfl⟩ := isDic_is hu
  obtain ⟨a, rfl, isd⟩ := isD_of (pk_rd n1 R1 (Ext.refl _) h0)
  refine ⟨a, rfl, isd, tN_step R1 q3 fun s2 ρ2 y H2 R2 E2 n2 q4 => tF_step R2 q4 fun d3 ρ3 z H3 R3 E3 im q5 => ?_⟩
  obtain ⟨d, h1, q6⟩ := q5.pk
  obtain ⟨k, h2, q7⟩ := q6.pk
  obtain ⟨od, h3, q8⟩ := q7.opt
  obtain ⟨a', o, ea, h4, h5⟩ := dGet_is h3 (pk_rd n1 R3 (E2.trans E3) h1) (pk_rd n2 R3 E3 h2)
  cases ea
  exact ⟨o, h4, q8 H3 (Ext.refl _) R3 _ (h5.getD im)⟩
theorem e_get1 {apos cpos : Pos} {fo fk : Ex} (ho : EOk g o fo) (hk : EOk g e fk) (hm : ∀ X : Cx, M1 X o "get" apos e cpos := by intro X; exact ⟨rfl, rfl, rfl, rfl⟩) : EOk g (.Call (.Attribute o "get" apos) [e] [] cpos) (eGet1 fo fk) := fun X W A tk => by
  refine PE.imp (pe_dget1 (by have := A.room.un; omega) (ho.n A tk) (hk.n A tk) (hm X)) fun σ H Q ⟨ρ, R, q⟩ => ?_
  refine tN_step R q fun s1 ρ1 x H1 R1 E1 n1 q1 => ?_
  obtain ⟨d0, h0, q2⟩ := q1.pk
  obtain ⟨u, hu, q3⟩ := q2.opt
  obtain ⟨t, kvs, rfl⟩ := isDic_is hu
  obtain ⟨a, rfl, isd⟩ := isD_of (pk_rd n1 R1 (Ext.refl _) h0)
  refine ⟨a, rfl, isd, tN_step R1 q3 fun s2 ρ2 y H2 R2 E2 n2 q5 => ?_⟩
  obtain ⟨d, h1, q6⟩ := q5.pk
  obtain ⟨k, h2, q7⟩ := q6.pk
  obtain ⟨od, h3, q8⟩ := q7.opt
  obtain ⟨a', o, ea, h4, h5⟩ := dGet_is h3 (pk_rd n1 R2 E2 h1) (pk_rd n2 R2 (Ext.refl _) h2)
  cases ea
  exact ⟨o, h4, q8 H2 (Ext.refl _) R2 _ (h5.getD rfl)⟩
end
end PL

namespace PL
open PySem PySem.Spec PyProof.Rows L2
/-! ### sorted -/
def leI (a b : Int) : Bool := decide (a ≤ b)
def srtI (ns : List Int) : List Int := ns.mergeSort leI
theorem srtI_le (ns : List Int) : (srtI ns).Pairwise (· ≤ ·) := by
  have h := List.pairwise_mergeSort (le := leI) (fun a b c h1 h2 => by unfold leI at *; simp at *; omega) (fun a b => by unfold leI; simp; omega) ns
  exact h.imp fun e => by unfold leI at e; simpa using e
theorem srtI_perm (ns : List Int) : (srtI ns).Perm ns := List.mergeSort_perm ns leI
theorem srtI_eq {ns ys : List Int} (p : ys.Perm ns) (s : ys.Pairwise (· ≤ ·)) : ys = srtI ns :=
  List.Perm.eq_of_pairwise (fun a b _ _ h1 h2 => Int.le_antisymm h1 h2) s (srtI_le ns) (p.trans (srtI_perm ns).symm)
def leT (a b : Str) : Bool := decide (a.cps.toList ≤ b.cps.toList)
def srtS (ns : List Str) : List Str := ns.mergeSort leT
theorem leT_trans {a b c : Str} (h1 : leT a b = true) (h2 : leT b c = true) : leT a c = true := by
  unfold leT at *
  simp only [decide_eq_true_eq] at *
  exact List.le_trans h1 h2
theorem leT_anti {a b : Str} (h1 : leT a b = true) (h2 : leT b a = true) : a = b := by
  unfold leT at *
  simp only [decide_eq_true_eq] at *
  have e := List.le_antisymm h1 h2
  cases a; cases b
  simp only [Str.mk.injEq]
  exact Array.ext' e
theorem srtS_le (ns : List Str) : (srtS ns).Pairwise (fun a b => leT a b = true) :=
  List.pairwise_mergeSort (le := leT) (fun a b c h1 h2 => leT_trans h1 h2) (fun a b => by
    unfold leT
    rcases List.le_total a.cps.toList b.cps.toList with h | h
    · simp [h]
    · simp [h]) ns
theorem srtS_perm (ns : List Str) : (srtS ns).Perm ns := List.mergeSort_perm ns leT
theorem leT_of {a b : Str} (h : ltCps b.cps.toList a.cps.toList = false) : leT a b = true := by
  rw [ltCps_eq] at h
  unfold leT
  simpa using h
theorem rising_le : ∀ {p : Str} {l : List Str}, risingS p l = true → (p :: l).Pairwise (fun a b => leT a b = true)
  | p, [], _ => by simp
  | p, x :: r, h => by
    unfold risingS at h
    rw [Bool.and_eq_true] at h
    have h1 := leT_of (by simpa using h.1)
    have ih := rising_le h.2
    refine List.pairwise_cons.mpr ⟨fun y hy => ?_, ih⟩
    rcases List.mem_cons.mp hy with e | hy
    · subst e; exact h1
    · exact leT_trans h1 (List.rel_of_pairwise_cons ih hy)
theorem sorted_le : ∀ {l : List Str}, sortedS l = true → l.Pairwise (fun a b => leT a b = true)
  | [], _ => List.Pairwise.nil
  | x :: r, h => rising_le h
theorem srtS_eq {ns ys : List Str} (p : ys.Perm ns) (s : sortedS ys = true) : ys = srtS ns :=
  List.Perm.eq_of_pairwise (fun a b _ _ h1 h2 => leT_anti h1 h2) (sorted_le s) (srtS_le ns) (p.trans (srtS_perm ns).symm)
/-! ### the rule -/
def strsD : List D → Option (List Str)
  | [] => some []
  | .str i :: ds => (strsD ds).map (i :: ·)
  | _ :: _ => none
theorem immL_strs {K : PySem.W.Frag} {H : Hp} : ∀ {ds : List D} {vs : List V} {ns : List Str}, ImmL K H ds vs → strsD ds = some ns → vs = ns.map V.str
  | [], _, _, h, e => by cases (show _ = _ from h); cases e; rfl
  | d :: ds, _, ns, ⟨v, r, e1, h1, h2⟩, e => by
    cases d with
    | str i =>
      unfold strsD at e
      cases e2 : strsD ds with
      | none => rw [e2] at e; cases e
      | some ns' =>
        rw [e2] at e
        cases e
        rw [e1, immL_strs h2 e2, (show v = V.str i from h1)]
        rfl
    | _ => cases e
theorem immL_map_str {K : PySem.W.Frag} {H : Hp} : ∀ ns : List Str, ImmL K H (ns.map .str) (ns.map V.str)
  | [] => rfl
  | n :: ns => ⟨_, _, rfl, rfl, immL_map_str ns⟩
def dSrt : List D → Option S
  | [.lst ds] => match intsD ds with
    | some ns => some (.o (.lst ((srtI ns).map .int)))
    | none => match strsD ds with
      | some zs => if zs.length < 64 then some (.o (.lst ((srtS zs).map .str))) else none
      | none => none
  | [.scr ns] => some (.o (.lst ((srtI ns).map .int)))
  | [.dic false kvs] => match strsD (kvs.map (·.1)) with
    | some zs => if zs.length < 64 then some (.o (.lst ((srtS zs).map .str))) else none
    | none => match intsD (kvs.map (·.1)) with
      | some ns => if ns.length < 64 then some (.o (.lst ((srtI ns).map .int))) else none
      | none => none
  | _ => none
theorem immK_strs {K : PySem.W.Frag} {H : Hp} : ∀ {kvs : List (D × D)} {kws : List (Key × V)} {zs : List Str}, ImmK K H kvs kws → strsD (kvs.map (·.1)) = some zs → kws.map (·.1) = zs.map Sum.inr
  | [], _, _, h, e => by cases (show _ = _ from h); cases e; rfl
  | (k, d) :: ds, _, ns, ⟨kk, v, r, e1, h0, h1, h2⟩, e => by
    subst e1
    cases k with
    | str i =>
      cases h0
      rw [List.map_cons] at e
      unfold strsD at e
      cases e2 : strsD (ds.map (·.1)) with
      | none => rw [e2] at e; cases e
      | some ns' =>
        rw [e2] at e
        cases e
        rw [List.map_cons, immK_strs h2 e2]
        rfl
    | _ => cases e
theorem immK_ints {K : PySem.W.Frag} {H : Hp} : ∀ {kvs : List (D × D)} {kws : List (Key × V)} {zs : List Int}, ImmK K H kvs kws → intsD (kvs.map (·.1)) = some zs → kws.map (·.1) = zs.map Sum.inl
  | [], _, _, h, e => by cases (show _ = _ from h); cases e; rfl
  | (k, d) :: ds, _, ns, ⟨kk, v, r, e1, h0, h1, h2⟩, e => by
    subst e1
    cases k with
    | int i =>
      cases h0
      rw [List.map_cons] at e
      unfold intsD at e
      cases e2 : intsD (ds.map (·.1)) with
      | none => rw [e2] at e; cases e
      | some ns' =>
        rw [e2] at e
        cases e
        rw [List.map_cons, immK_ints h2 e2]
        rfl
    | _ => cases e
section
variable {g : Cf} {X : Cx}
theorem c_srt (A : At g X) : CR X (.builtin "sorted") dSrt := by
  refine ⟨_, CallR.or cr_sortedI (CallR.or cr_sortedS (CallR.or (call_sortedD A.calm) (call_sortedDI A.calm))), fun xs H Q ds s p h q => ?_⟩
  have outI : ∀ (ns ys : List Int) (p : Addr), s = .o (.lst ((srtI ns).map .int)) → ys.Perm ns → ys.Pairwise (· ≤ ·) → H p = none → Q (.ref p) (upd H p (.lst (ys.map V.int))) := fun ns ys p es h1 h2 hp => by
    subst es
    rw [srtI_eq h1 h2]
    exact q _ _ (new_tup (K := X.K) hp) ⟨p, rfl, hp, _, upd_same, immL_map_int _⟩
  have outS : ∀ (ns ys : List Str) (p : Addr), s = .o (.lst ((srtS ns).map .str)) → ys.Perm ns → sortedS ys = true → H p = none → Q (.ref p) (upd H p (.lst (ys.map V.str))) := fun ns ys p es h1 h2 hp => by
    subst es
    rw [srtS_eq h1 h2]
    exact q _ _ (new_tup (K := X.K) hp) ⟨p, rfl, hp, _, upd_same, immL_map_str _⟩
  match ds, h with
  | [.lst ds], h =>
    obtain ⟨x, rfl, r⟩ := pair1 p
    obtain ⟨a, vs, rfl, s1, i1⟩ := r.lst
    simp only [dSrt] at h
    split at h
    · rename_i ns hn
      cases h
      exact .inl ⟨a, ns, rfl, by rw [← immL_ints i1 hn]; exact s1, fun ys p h1 h2 hp => outI _ ys p rfl h1 h2 hp⟩
    · split at h
      · rename_i zs hn
        split at h
        · rename_i hl
          cases h
          exact .inr (.inl ⟨a, zs, rfl, by rw [← immL_strs i1 hn]; exact s1, hl, fun ys p h1 h2 hp => outS _ ys p rfl h1 h2 hp⟩)
        · cases h
      · cases h
  | [.scr ns], h =>
    obtain ⟨x, rfl, r⟩ := pair1 p
    obtain ⟨a, rfl, s1⟩ := r.scr
    cases h
    exact .inl ⟨a, ns, rfl, s1, fun ys p h1 h2 hp => outI _ ys p rfl h1 h2 hp⟩
  | [.dic false kvs], h =>
    obtain ⟨x, rfl, r⟩ := pair1 p
    obtain ⟨a, kws, rfl, s1, i1⟩ := r.dicK
    simp only [dSrt] at h
    split at h
    · rename_i zs hn
      split at h
      · rename_i hl
        cases h
        exact .inr (.inr (.inl ⟨a, kws, zs, rfl, s1, immK_strs i1 hn, hl, fun ys p h1 h2 hp => outS _ ys p rfl h1 h2 hp⟩))
      · cases h
    · split at h
      · rename_i zs hn
        split at h
        · rename_i hl
          cases h
          exact .inr (.inr (.inr ⟨a, kws, zs, rfl, s1, immK_ints i1 hn, hl, fun ys p h1 h2 hp => outI _ ys p rfl h1 h2 hp⟩))
        · cases h
      · cases h
end
end PL

namespace PL
open PySem PySem.Spec PyProof.Rows L2
section
variable {g : Cf} {X : Cx} {e a b c o f tg : Expr} {es : List Expr} {pos : Pos}
/-! ### extend -/
def rExtR : V → List V → Hp → VK → Prop := fun x vs H Q => ∃ l b xs zs, x = .ref l ∧ vs = [.ref b] ∧ H l = some (.lst xs) ∧ L2.Rd H b (.lst zs) ∧ xs.length + zs.length ≤ sizeLine ∧ Q .non (upd H l (.lst (xs ++ zs)))
theorem mt_extR : MtR X "list.extend" rExtR := by
  intro pins s σ H x vs v us Q I rx rv h
  obtain ⟨l, b, xs, zs, rfl, rfl, hH, hB, hz, q⟩ := h
  cases rx
  obtain ⟨u, rfl, ru⟩ := rv.one
  cases ru
  obtain ⟨z, its, n, r, hl, e⟩ := I.lstM hH
  have fin : ∀ (its2 : List Value), Vals zs its2 → its.toArray.size + its2.toArray.size ≤ sizeLine → EP X pins σ Q .none { s with heap := s.heap.update l (Obj.mapSeq fun x => x ++ its2.toArray), toks := s.toks } := fun its2 r2 hsz => by
    refine ⟨.non, _, I.lset (its' := its ++ its2) hH e (by simp) (r.append r2) ?_, rfl, q⟩
    rw [List.length_append]
    omega
  · obtain ⟨z2, its2, n2, r2, e2⟩ := hB.ok I.hok
    have hl2 := r2.length
    have hsz : its.toArray.size + its2.toArray.size ≤ sizeLine := by rw [List.size_toArray, List.size_toArray]; omega
    have hlong : ¬ (!its.toArray.isEmpty && Builtin.List.listTooLong (its.toArray.size + its2.toArray.size)) = true := by
      rw [notLongL hsz, Bool.and_false]
      exact Bool.false_ne_true
    exact call_meets PySem.F.slot_list_extend ⟨_, e, rfl⟩ PySem.F.entry_list_extend (PySem.F.args_list_extend_2 _ _)
      (AutoSeq1.list_extend_list_list_0 l its.toArray n b its2.toArray n2 hlong (by rw [List.size_toArray]; omega) (by omega)) ⟨e, e2, fin its2 r2 hsz⟩
def mExtend (ls ds : List D) : Option (D × List D) := match ds with
  | [.lst zs] => if ls.length + zs.length ≤ 16777216 then some (.non, ls ++ zs) else none
  | _ => none
theorem m_extend (A : At g X) : MtR X "list.extend" rExtR ∧ MlR X rExtR mExtend := ⟨mt_extR, fun a vs xs H Q ls ds ls' z hv iv im hod q => by
  match ds, hod with
  | [.lst zs], hod =>
    obtain ⟨x, rfl, ix⟩ := immL_1 im
    simp only [mExtend] at hod
    split at hod
    · rename_i hl
      cases hod
      obtain ⟨b, ws, rfl, ⟨o, hb⟩, iw⟩ := ix
      obtain ⟨e1, e2, e3⟩ := lst_upd hv (iv.append iw)
      exact ⟨a, b, vs, ws, rfl, rfl, hv, .inr ⟨o, hb⟩, by rw [iv.len, iw.len, sizeLine_eq]; exact hl, q _ _ e1 e2 e3 rfl⟩
    · cases hod⟩
/-! ### gcd -/
def dGcd : List D → Option S
  | [.int a, .int b] => some (.v (.int (Nat.gcd a.natAbs b.natAbs : Nat)))
  | _ => none
theorem c_gcd (A : At g X) : CR X (.builtin "math.gcd") dGcd := by
  refine ⟨_, cr_gcd, fun xs H Q ds s p h q => ?_⟩
  match ds, h with
  | [.int i, .int j], h =>
    obtain ⟨x, y, rfl, r, r'⟩ := pair2 p
    cases h
    exact ⟨i, j, by rw [r.int, r'.int], q _ H (Same.refl H) rfl⟩
theorem e_cbf {x : Str} {id : String} {p : Pos} {od : List D → Option S} {fa : Ax} (hc : ∀ X, At g X → CR X (.builtin id) od) (hm : g.mg x = some (.builtin id)) (ha : AOk g (e :: es) fa) (hg : Glo g x := by rfl)
    (hdb : (x == ("__debug__" : Str)) = false := by decide)
    (he : ∀ env, starEach (e :: es) env = (false, eval e env) :: starEach es env := by intro _; rfl) (hpl : ∀ env, (backTo pos (starEach es env)).any (·.1) = false := by intro _; rfl) : EOk g (.Call (.Name x p) (e :: es) [] pos) (eB od fa) := fun X W A tk => by
  obtain ⟨r, hr, h⟩ := hc X A
  exact PE.imp (pe_callBfun hr (hg.gl A) (by rw [A.mg]; exact hm) (ha X W A tk) hdb (he _) (hpl _)) fun σ H Q t => readCB h t
/-! ### len of a dict -/
theorem len_dc : CallR X (.builtin "len") (fun xs H Q => ∃ a kvs, xs = [.ref a] ∧ L2.Rd H a (.dK kvs) ∧ Q (.int kvs.length) H) := by
  intro pins s σ H xs us Q I r h
  obtain ⟨a, kvs, rfl, hd, q⟩ := h
  obtain ⟨u, rfl, ru⟩ := r.one
  cases ru
  exact d_len I hd fun t s' I' => ⟨.int kvs.length, H, I', ⟨t, rfl⟩, q⟩
def dLen1 : List D → Option S
  | [.dic false kvs] => some (.v (.int kvs.length))
  | ds => dLen ds
theorem c_len1 (A : At g X) : CR X (.builtin "len") dLen1 := by
  obtain ⟨r, hr, h⟩ := c_len (X := X) A
  refine ⟨_, CallR.or len_dc hr, fun xs H Q ds s p hd q => ?_⟩
  unfold dLen1 at hd
  split at hd
  · rename_i kvs
    obtain ⟨x, rfl, r⟩ := pair1 p
    obtain ⟨a, kws, rfl, s1, i1⟩ := r.dicK
    cases hd
    exact .inl ⟨a, kws, rfl, s1, by rw [immK_length i1]; exact q _ H (Same.refl H) rfl⟩
  · exact .inr (h xs H Q _ s p hd q)
/-! ### range(i, j, c) -/
def rg3D (lo c : Int) (n : Nat) : List D := (List.range n).map fun k : Nat => .int (lo + k * c)
theorem it_rgc {K : PySem.W.Frag} {H : Hp} {lo c : Int} {n : Nat} : ItOk K (Itc lo c n) (rg3D lo c n) H := by
  refine ⟨fun _ => True, YFn fun i => .int (lo + i * c), ?_, trivial, fun _ _ _ g => g, fun i H1 x H2 hi _ hy => ?_⟩
  · have w := walk_rangeC (lo := lo) (c := c) (n := n)
    rw [rg3D, List.length_map, List.length_range]
    exact w
  · obtain ⟨rfl, rfl⟩ := hy
    rw [rg3D, List.length_map, List.length_range] at hi
    refine ⟨Same.refl _, .int (lo + i * c), ?_, rfl⟩
    rw [rg3D, List.getElem?_map, List.getElem?_range hi]
    rfl
def rgN (i j c : Int) : Nat := (Builtin.Range.rangeSize i j c).toNat
def int3 : List D → Option (Int × Int × Int)
  | [.int i, .int j, .int c] => if c ≠ 0 ∧ c.natAbs < 1073741824 ∧ Builtin.Range.small i j c = true ∧ 0 ≤ Builtin.Range.rangeSize i j c then some (i, j, c) else none
  | _ => none
def iRg3 (fa : Ax) : Ix := fun ρ => fa ρ >>= fun p => pkL p.2 p.1 >>= fun ds => liftO (int3 ds) >>= fun j => .ok (rg3D j.1 j.2.2 (rgN j.1 j.2.1 j.2.2), p.2)
theorem pair3 {α β : Type} {R : α → β → Prop} {d1 d2 d3 : α} {xs : List β} (h : Paired R [d1, d2, d3] xs) : ∃ x y z, xs = [x, y, z] ∧ R d1 x ∧ R d2 y ∧ R d3 z := by
  cases h with
  | cons h1 t =>
    obtain ⟨y, z, e, h2, h3⟩ := pair2 t
    subst e
    exact ⟨_, y, z, rfl, h1, h2, h3⟩
theorem i_rg3 {p : Pos} {fa : Ax} (hm : g.mg "range" = none) (ha : AOk g [a, b, c] fa) (hg : Glo g "range" := by rfl) (hs : ∀ env, starEach [a, b, c] env = (false, eval a env) :: starEach [b, c] env := by intro _; rfl)
    (hpl : ∀ env, (backTo pos (starEach [b, c] env)).any (·.1) = false := by intro _; rfl) : IOk g tg (.Call (.Name "range" p) [a, b, c] [] pos) (iRg3 fa) := fun X W A tk => by
  refine PI.imp (pi_range3 (hg.gl A) (by rw [A.mg]; exact hm) (ha X W A tk) (hs _) (hpl _)) fun σ H Q ⟨ρ, R, q⟩ => tA_step R q fun ss ρ1 xs H1 R1 E1 n1 q1 => ?_
  obtain ⟨ds, h1, q3⟩ := q1.pkL
  obtain ⟨j, ho, q5⟩ := q3.opt
  have pr := pkL_rd R1 n1 h1
  match ds, ho with
  | [.int i', .int j', .int k'], ho =>
    obtain ⟨x, y, z, rfl, r, r', r''⟩ := pair3 pr
    simp only [int3] at ho
    split at ho
    · rename_i hz
      cases ho
      exact ⟨i', j', k', rgN i' j' k', by rw [r.int, r'.int, r''.int], ⟨hz.1, hz.2.1, hz.2.2.1, (Int.toNat_of_nonneg hz.2.2.2).symm⟩, q5 H1 (Ext.refl _) R1 _ it_rgc⟩
    · cases ho
/-! ### d.values(), d.items() -/
def dVals : D → Option (List D)
  | .dic false kvs => some (kvs.map (·.2))
  | _ => none
def dItems : D → Option (List D)
  | .dic false kvs => some (kvs.map fun p => .tup [p.1, p.2])
  | _ => none
theorem dVals_is {d : D} {ds : List D} (h : dVals d = some ds) : ∃ kvs, d = .dic false kvs ∧ ds = kvs.map (·.2) := by
  unfold dVals at h
  split at h
  · cases h; exact ⟨_, rfl, rfl⟩
  · cases h
theorem dItems_is {d : D} {ds : List D} (h : dItems d = some ds) : ∃ kvs, d = .dic false kvs ∧ ds = kvs.map fun p => .tup [p.1, p.2] := by
  unfold dItems at h
  split at h
  · cases h; exact ⟨_, rfl, rfl⟩
  · cases h
def Rd0 (K : PySem.W.Frag) (H : Hp) (kvs : List (D × D)) (x : V) : Prop := ∃ a o kws, x = .ref a ∧ H a = some (.frz o (.dK kws)) ∧ ImmK K H kvs kws
theorem it_vals {K : PySem.W.Frag} {H : Hp} {kvs : List (D × D)} {kws : List (Key × V)} {a : Addr} {o : Obj} (h1 : H a = some (.frz o (.dK kws))) (h2 : ImmK K H kvs kws) : ItOk K (Itd a o kws) (kvs.map (·.2)) H := by
  refine ⟨fun H => H a = some (.frz o (.dK kws)) ∧ ImmK K H kvs kws, fun i H x H' => H' = H ∧ ∃ k, kws[i]? = some (k, x), ?_, ⟨h1, h2⟩, fun H1 H2 e g => ⟨e.frz g.1, ImmK.ext e _ _ g.2⟩, fun i H1 x H2 hi hg hy => ?_⟩
  · have w := (walk_values (d := a) (o := o) (kvs := kws)).mono (G' := fun H => H a = some (.frz o (.dK kws)) ∧ ImmK K H kvs kws) (fun H g => g.1) fun _ _ _ _ _ _ y => y
    rw [List.length_map, ← immK_len h2]
    exact w
  · obtain ⟨rfl, k, h3⟩ := hy
    obtain ⟨kd, d, h4, h5, h6⟩ := immK_get hg.2 h3
    exact ⟨Same.refl _, d, by rw [List.getElem?_map, h4]; rfl, h6⟩
theorem it_items {K : PySem.W.Frag} {H : Hp} {kvs : List (D × D)} {kws : List (Key × V)} {a : Addr} {o : Obj} (h1 : H a = some (.frz o (.dK kws))) (h2 : ImmK K H kvs kws) : ItOk K (Iti a o kws) (kvs.map fun p => .tup [p.1, p.2]) H := by
  refine it_pair (by rw [List.length_map, ← immK_len h2]) ((walk_items (d := a) (o := o) (kvs := kws)).mono (G' := fun H => H a = some (.frz o (.dK kws)) ∧ ImmK K H kvs kws) (fun H g => g.1) fun _ _ _ _ _ _ y => y) ⟨h1, h2⟩ (fun H1 H2 e g => ⟨e.frz g.1, ImmK.ext e _ _ g.2⟩) fun i H1 x y hi g hx hy => ?_
  cases e : kws[i]? with
  | none => rw [e] at hx; cases hx
  | some kv =>
    rw [e] at hx hy
    cases hx; cases hy
    obtain ⟨kd, d, h4, h5, h6⟩ := immK_get g.2 (k := kv.1) (v := kv.2) e
    exact ⟨kd, d, by rw [List.getElem?_map, h4]; rfl, imm_key h5, h6⟩
def iDc (l : List Nat) (sel : D → Option (List D)) (f : Ex) : Ix := fun ρ => eF l f ρ >>= fun p => liftO (sel p.1) >>= fun ds => .ok (ds, p.2)
theorem i_values {apos cpos : Pos} {fa : Ex} (ha : EOk g a fa) (hbase : ∀ env, attributeBase a "values" env (eval a env) = eval a env := by intro _; rfl) (hline : (apos.endLine == cpos.line) = true := by rfl) :
    IOk g tg (.Call (.Attribute a "values" apos) [] [] cpos) (iDc g.ios dVals fa) := fun X W A tk => by
  refine PI.imp (pi_values (ha.f A tk) (hbase _) hline) fun σ H Q ⟨ρ, R, q⟩ => ?_
  refine tF_step R q fun d ρ1 x H1 R1 E1 im q1 => ?_
  obtain ⟨ds, hd, q2⟩ := q1.opt
  obtain ⟨kvs, rfl, rfl⟩ := dVals_is hd
  obtain ⟨p, o, kws, rfl, h1, h2⟩ := (show Rd0 X.K H1 kvs x from im)
  exact ⟨p, o, kws, rfl, h1, q2 H1 (Ext.refl _) R1 _ (it_vals h1 h2)⟩
theorem i_items {apos cpos tpos : Pos} {kk : Nat} {elts : List Expr} {fa : Ex} (ha : EOk g a fa) (hbase : ∀ env, attributeBase a "items" env (eval a env) = eval a env := by intro _; rfl) (hline : (apos.endLine == cpos.line) = true := by rfl) :
    IOk g (.Tuple elts kk tpos) (.Call (.Attribute a "items" apos) [] [] cpos) (iDc g.ios dItems fa) := fun X W A tk => by
  refine PI.imp (pi_items (ha.f A tk) (hbase _) hline) fun σ H Q ⟨ρ, R, q⟩ => ?_
  refine tF_step R q fun d ρ1 x H1 R1 E1 im q1 => ?_
  obtain ⟨ds, hd, q2⟩ := q1.opt
  obtain ⟨kvs, rfl, rfl⟩ := dItems_is hd
  obtain ⟨p, o, kws, rfl, h1, h2⟩ := (show Rd0 X.K H1 kvs x from im)
  exact ⟨p, o, kws, rfl, h1, q2 H1 (Ext.refl _) R1 _ (it_items h1 h2)⟩
/-! ### xs[::-1], s.join(xs) -/
theorem e_revL {k : Nat} {p1 p2 p3 : Pos} {fa : Ex} (ha : EOk g a fa) : EOk g (.Subscript a (.Slice none none (some (.UnaryOp .USub (.Constant (.int 1) k p1) p2)) p3) pos) (e1 dRev fa) := fun X W A tk => by
  refine PE.imp (pe_revL (ha.n A tk)) fun σ H Q t => read1 (r := fun x H1 Q => ∃ a xs, x = .ref a ∧ SqL X.K H1 a xs ∧ ∀ p, H1 p = none → Q (.ref p) (upd H1 p (.lst xs.reverse))) (fun x H Q d s r1 h q => ?_) t
  unfold dRev at h
  split at h
  · cases h
    obtain ⟨a, vs, rfl, s1, i1⟩ := r1.lst
    exact ⟨a, vs, rfl, s1, fun p hp => q _ _ (new_tup (K := X.K) hp) ⟨p, rfl, hp, _, upd_same, ImmL.ext (Ext.of_same (new_tup (K := X.K) hp)) _ _ i1.reverse⟩⟩
  · cases h
def strS : S → Option Str
  | .v (.str a) => some a
  | _ => none
def dJoin (a : Str) (d : D) : Option S := (dSeq d).bind fun ds => (strsD ds).bind fun ys => if (ys.map (·.length)).sum + ys.length * a.length ≤ 16777216 then some (.v (.str (Txt.join a ys))) else none
def eJoin (fo fe : Ex) : Ex := fun ρ => fo ρ >>= fun p => liftO (strS p.1) >>= fun a => fe p.2 >>= fun q => PL.pk q.2 q.1 >>= fun d => liftO (dJoin a d) >>= fun s => .ok (s, q.2)
theorem strS_is {s : S} {a : Str} (h : strS s = some a) : s = .v (.str a) := by
  unfold strS at h
  split at h
  · cases h; rfl
  · cases h
theorem dSeq_sq {K : PySem.W.Frag} {H : Hp} {d : D} {ds : List D} {x : V} (h : dSeq d = some ds) (r : Rd K H d x) : ∃ a vs, x = .ref a ∧ (SqL K H a vs ∨ SqT K H a vs) ∧ ImmL K H ds vs := by
  cases d with
  | tup es => cases h; obtain ⟨a, vs, e, s1, i1⟩ := r.tup; exact ⟨a, vs, e, .inr s1.seq, i1⟩
  | lst es => cases h; obtain ⟨a, vs, e, s1, i1⟩ := r.lst; exact ⟨a, vs, e, .inl s1, i1⟩
  | scr es => cases h; obtain ⟨a, e, s1⟩ := r.scr; exact ⟨a, _, e, .inl s1, immL_map_int _⟩
  | _ => cases h
theorem e_join {apos : Pos} {fo fe : Ex} (ho : EOk g o fo) (he : EOk g e fe) (hs : ∀ env, starEach [e] env = [(false, eval e env)] := by intro _; rfl) (hbase : ∀ env, attributeBase o "join" env (eval o env) = eval o env := by intro _; rfl) (hline : (apos.endLine == pos.line) = true := by rfl) :
    EOk g (.Call (.Attribute o "join" apos) [e] [] pos) (eJoin fo fe) := fun X W A tk => by
  refine PE.imp (pe_join (ho.n A tk) (he.n A tk) (hs _) (hbase _) hline) fun σ H Q ⟨ρ, R, q⟩ => ?_
  refine tN_step R q fun s1 ρ1 x H1 R1 E1 n1 q1 => ?_
  obtain ⟨a, ha, q2⟩ := q1.opt
  cases strS_is ha
  cases (show x = V.str a from n1)
  refine ⟨⟨a, rfl⟩, tN_step R1 q2 fun s2 ρ2 y H2 R2 E2 n2 q3 => ?_⟩
  obtain ⟨d, h1, q4⟩ := q3.pk
  obtain ⟨s, h2, q5⟩ := q4.opt
  unfold dJoin at h2
  cases h3 : dSeq d with
  | none => rw [h3] at h2; cases h2
  | some ds =>
    rw [h3, Option.bind_some] at h2
    cases h4 : strsD ds with
    | none => rw [h4] at h2; cases h2
    | some ys =>
      rw [h4, Option.bind_some] at h2
      split at h2
      · rename_i hz
        cases h2
        obtain ⟨b, vs, rfl, s1, i1⟩ := dSeq_sq h3 (pk_rd n2 R2 (Ext.refl _) h1)
        have e := immL_strs i1 h4
        subst e
        exact ⟨a, b, ys, rfl, rfl, s1, hz, q5 H2 (Ext.refl _) R2 _ rfl⟩
      · cases h2
end
end PL

/-! what the mirrors compute: equations for simp -/
namespace PL
open PySem PySem.Spec PyProof.Rows L2
/-- bind, written so that simp looks at the first reckoning alone -/
abbrev Wit {α β : Type} (_ : α → Out β) : Type := Unit
def bnd {α β : Type} (k : α → Out β) (w : Wit k) (r : Out α) : Out β := r >>= k
@[simp ↓] theorem x_bind {α β : Type} (r : Out α) (k : α → Out β) : (r >>= k) = bnd k () r := (rfl)
@[simp] theorem x_bnd1 {α β : Type} (a : α) (k : α → Out β) (w : Wit k) : bnd k w (.ok a) = k a := (rfl)
@[simp] theorem x_bnd2 {α β : Type} (c : Str) (ρ : Rho) (k : α → Out β) (w : Wit k) : bnd k w (.exc c ρ) = .exc c ρ := (rfl)
@[simp] theorem x_bnd3 {α β : Type} (k : α → Out β) (w : Wit k) : bnd k w .stuck = .stuck := (rfl)
section
variable {ρ : Rho} {od : D → D → Option S} {l : List Nat}
@[simp] theorem x_runF (m : Nat) (f : Sx) (ds : List D) : runF m f ds = (f (rhoV m ds) >>= endF) := (rfl)
@[simp] theorem x_rhoV (m : Nat) (ds : List D) : rhoV m ds = ds.map (fun d => some (S.v d)) ++ List.replicate m none := (rfl)
@[simp] theorem x_endF1 (s : S) (ρ : Rho) : endF (.ret s ρ) = .ok s := (rfl)
@[simp] theorem x_endF2 (ρ : Rho) : endF (.next ρ) = .ok (.v .non) := (rfl)
@[simp] theorem x_eC (d : D) : eC d ρ = .ok (.v d, ρ) := (rfl)
@[simp] theorem x_eVar (i : Nat) : eVar i ρ = (match ρ[i]? with
  | some (some (.v d)) => .ok (.v d, ρ)
  | some (some (.o _)) => .ok (.b i, ρ)
  | _ => .stuck) := (rfl)
@[simp] theorem x_pkv (d : D) : pk ρ (.v d) = .ok d := (rfl)
@[simp] theorem x_pko (d : D) : pk ρ (.o d) = .ok d := (rfl)
@[simp] theorem x_pkb (i : Nat) : pk ρ (.b i) = (match ρ[i]? with
    | some (some (.o d)) => .ok d
    | some (some (.v d)) => .ok d
    | _ => .stuck) := (rfl)
@[simp] theorem x_e2 (fa fb : Ex) : e2 od fa fb ρ = (fa ρ >>= fun p => fb p.2 >>= fun q => pk q.2 p.1 >>= fun d1 => pk q.2 q.1 >>= fun d2 => liftO (od d1 d2) >>= fun s => .ok (s, q.2)) := (rfl)
@[simp] theorem x_e1 (od : D → Option S) (fa : Ex) : e1 od fa ρ = (fa ρ >>= fun p => pk p.2 p.1 >>= fun d1 => liftO (od d1) >>= fun s => .ok (s, p.2)) := (rfl)
@[simp] theorem x_bE (t : Tx) : bE t ρ = (t ρ >>= fun p => .ok (.v (.bl p.1), p.2)) := (rfl)
@[simp] theorem x_tTru (fa : Ex) : tTru fa ρ = (fa ρ >>= fun p => pk p.2 p.1 >>= fun d => liftO (dTru d) >>= fun b => .ok (b, p.2)) := (rfl)
@[simp] theorem x_t2 (od : D → D → Option Bool) (fa fb : Ex) : t2 od fa fb ρ = (fa ρ >>= fun p => fb p.2 >>= fun q => pk q.2 p.1 >>= fun d1 => pk q.2 q.1 >>= fun d2 => liftO (od d1 d2) >>= fun k => .ok (k, q.2)) := (rfl)
@[simp] theorem x_tCh (od od' : D → D → Option Bool) (fa fb fc : Ex) : tCh od od' fa fb fc ρ = (fa ρ >>= fun p => fb p.2 >>= fun q => pk q.2 p.1 >>= fun d1 => pk q.2 q.1 >>= fun d2 => liftO (od d1 d2) >>= fun k =>
  if k = true then fc q.2 >>= fun r => pk r.2 q.1 >>= fun d2 => pk r.2 r.1 >>= fun d3 => liftO (od' d2 d3) >>= fun k' => .ok (k', r.2) else .ok (false, q.2)) := (rfl)
@[simp] theorem x_tAnd (t u : Tx) : tAnd t u ρ = (t ρ >>= fun p => if p.1 = true then u p.2 else .ok (false, p.2)) := (rfl)
@[simp] theorem x_tOr (t u : Tx) : tOr t u ρ = (t ρ >>= fun p => if p.1 = true then .ok (true, p.2) else u p.2) := (rfl)
@[simp] theorem x_tNot (t : Tx) : tNot t ρ = (t ρ >>= fun p => .ok (!p.1, p.2)) := (rfl)
@[simp] theorem x_eAnd (fa fb : Ex) : eAnd fa fb ρ = (fa ρ >>= fun p => pk p.2 p.1 >>= fun d => match d with
  | .bl true => fb p.2
  | .bl false => .ok (.v (.bl false), p.2)
  | _ => .stuck) := (rfl)
@[simp] theorem x_eOr (fa fb : Ex) : eOr fa fb ρ = (fa ρ >>= fun p => pk p.2 p.1 >>= fun d => match d with
  | .bl true => .ok (.v (.bl true), p.2)
  | .bl false => fb p.2
  | _ => .stuck) := (rfl)
@[simp] theorem x_eNot (fa : Ex) : eNot fa ρ = (fa ρ >>= fun p => pk p.2 p.1 >>= fun d => match d with
  | .bl k => .ok (.v (.bl (!k)), p.2)
  | _ => .stuck) := (rfl)
@[simp] theorem x_eIf (t : Tx) (fa fb : Ex) : eIf t fa fb ρ = (t ρ >>= fun p => if p.1 = true then fa p.2 else fb p.2) := (rfl)
@[simp] theorem x_fzv (d : D) : fz l (.v d) ρ = .ok (d, ρ) := (rfl)
@[simp] theorem x_fzo (d : D) : fz l (.o d) ρ = .ok (d, ρ) := (rfl)
@[simp] theorem x_fzb (i : Nat) : fz l (.b i) ρ = (if i ∈ l then .stuck else match ρ[i]? with
    | some (some (.o d)) => .ok (d, ρ.set i (some (.v d)))
    | some (some (.v d)) => .ok (d, ρ)
    | _ => .stuck) := (rfl)
@[simp] theorem x_fzL0 : fzL l [] ρ = .ok ([], ρ) := (rfl)
@[simp] theorem x_fzL1 (s : S) (ss : List S) : fzL l (s :: ss) ρ = (fz l s ρ >>= fun p => fzL l ss p.2 >>= fun q => .ok (p.1 :: q.1, q.2)) := (rfl)
@[simp] theorem x_eF (f : Ex) : eF l f ρ = (f ρ >>= fun p => fz l p.1 p.2) := (rfl)
@[simp] theorem x_aNil : aNil ρ = .ok ([], ρ) := (rfl)
@[simp] theorem x_aCons (f : Ex) (r : Ax) : aCons f r ρ = (f ρ >>= fun p => r p.2 >>= fun q => .ok (p.1 :: q.1, q.2)) := (rfl)
@[simp] theorem x_aF (f : Ax) : aF l f ρ = (f ρ >>= fun p => fzL l p.1 p.2) := (rfl)
@[simp] theorem x_eTup (f : Ax) : eTup l f ρ = (aF l f ρ >>= fun p => if p.1.length ≤ 16777216 then .ok (.v (.tup p.1), p.2) else .stuck) := (rfl)
@[simp] theorem x_eLst (f : Ax) : eLst l f ρ = (aF l f ρ >>= fun p => if p.1.length ≤ 16777216 then .ok (.o (.lst p.1), p.2) else .stuck) := (rfl)
@[simp] theorem x_pNo : pNo ρ = .ok (none, ρ) := (rfl)
@[simp] theorem x_pSo (f : Ex) : pSo f ρ = (f ρ >>= fun p => pk p.2 p.1 >>= fun d => liftO (dInt d) >>= fun i => .ok (some i, p.2)) := (rfl)
@[simp] theorem x_dInt (i : Int) : dInt (.int i) = some i := (rfl)
@[simp] theorem x_eSl (f : Ex) (lo hi : Px) : eSl f lo hi ρ = (f ρ >>= fun p => lo p.2 >>= fun q => hi q.2 >>= fun r => pk r.2 p.1 >>= fun d => liftO (dSl d q.1 r.1) >>= fun s => .ok (s, r.2)) := (rfl)
@[simp] theorem x_pkL0 : pkL ρ [] = .ok [] := (rfl)
@[simp] theorem x_pkL1 (s : S) (ss : List S) : pkL ρ (s :: ss) = (pk ρ s >>= fun d => pkL ρ ss >>= fun ds => .ok (d :: ds)) := (rfl)
@[simp] theorem x_eB (od : List D → Option S) (fa : Ax) : eB od fa ρ = (fa ρ >>= fun p => pkL p.2 p.1 >>= fun ds => liftO (od ds) >>= fun s => .ok (s, p.2)) := (rfl)
@[simp] theorem x_tIsi (f : D → Option Bool) (fa : Ex) : tIsi f fa ρ = (fa ρ >>= fun p => pk p.2 p.1 >>= fun d => liftO (f d) >>= fun k => .ok (k, p.2)) := (rfl)
@[simp] theorem x_eCall (n : Nat) (F : Fn) (fa : Ax) : eCall l n F fa ρ = (aF l fa ρ >>= fun p => if p.1.length = n then atR p.2 (F p.1) else .stuck) := (rfl)
@[simp] theorem x_atR1 (s : S) : atR ρ (.ok s) = .ok (s, ρ) := (rfl)
@[simp] theorem x_atR2 (c : Str) (ρ' : Rho) : atR ρ (.exc c ρ') = .exc c ρ := (rfl)
/-! statements -/
@[simp] theorem x_sSeq (f h : Sx) : sSeq f h ρ = (f ρ >>= fun r => match r with
  | .next ρ' => h ρ'
  | .ret s ρ' => .ok (.ret s ρ')
  | .brk ρ' => .ok (.brk ρ')
  | .cnt ρ' => .ok (.cnt ρ')) := (rfl)
@[simp] theorem x_sNil : sNil ρ = .ok (.next ρ) := (rfl)
@[simp] theorem x_sBrk : sBrk ρ = .ok (.brk ρ) := (rfl)
@[simp] theorem x_sCnt : sCnt ρ = .ok (.cnt ρ) := (rfl)
@[simp] theorem x_sEx (f : Ex) : sEx f ρ = (f ρ >>= fun p => .ok (.next p.2)) := (rfl)
@[simp] theorem x_mvv (d : D) : mv l (.v d) ρ = .ok (.v d, ρ) := (rfl)
@[simp] theorem x_mvo (d : D) : mv l (.o d) ρ = .ok (.o d, ρ) := (rfl)
@[simp] theorem x_mvb (i : Nat) : mv l (.b i) ρ = (if i ∈ l then .stuck else match ρ[i]? with
    | some (some (.o d)) => .ok (.o d, ρ)
    | some (some (.v d)) => .ok (.v d, ρ)
    | _ => .stuck) := (rfl)
@[simp] theorem x_sRet (f : Ex) : sRet l f ρ = (f ρ >>= fun p => mv l p.1 p.2 >>= fun r => .ok (.ret r.1 r.2)) := (rfl)
@[simp] theorem x_sRetN : sRetN ρ = .ok (.ret (.v .non) ρ) := (rfl)
@[simp] theorem x_bdv (d : D) : bd l (.v d) ρ = .ok (.v d, ρ) := (rfl)
@[simp] theorem x_bdo (d : D) : bd l (.o d) ρ = .ok (.o d, ρ) := (rfl)
@[simp] theorem x_bdb (i : Nat) : bd l (.b i) ρ = (fz l (.b i) ρ >>= fun p => .ok (.v p.1, p.2)) := (rfl)
@[simp] theorem x_sSet (i : Nat) (f : Ex) : sSet l i f ρ = (f ρ >>= fun p => bd l p.1 p.2 >>= fun p => if i ∈ l then .stuck else .ok (.next (p.2.set i (some p.1)))) := by
  unfold sSet eBd
  cases f ρ <;> rfl
@[simp] theorem x_gNm (i : Nat) (d : D) : gNm l i d ρ = (if i ∈ l then none else some (ρ.set i (some (.v d)))) := (rfl)
@[simp] theorem x_gsNil : gsNil [] ρ = some ρ := (rfl)
@[simp] theorem x_gsCons (f : Gx) (r : Gxs) (d : D) (ds : List D) : gsCons f r (d :: ds) ρ = (f d ρ).bind fun ρ' => r ds ρ' := (rfl)
@[simp] theorem x_gTp1 (n : Nat) (r : Gxs) (ds : List D) : gTp n r (.tup ds) ρ = (if ds.length = n then r ds ρ else none) := (rfl)
@[simp] theorem x_gTp2 (n : Nat) (r : Gxs) (ds : List D) : gTp n r (.lst ds) ρ = (if ds.length = n then r ds ρ else none) := (rfl)
@[simp] theorem x_sAsg (f : Ex) (t : Gx) : sAsg l f t ρ = (f ρ >>= fun p => fz l p.1 p.2 >>= fun p => liftO (t p.1 p.2) >>= fun ρ' => .ok (.next ρ')) := by
  unfold sAsg eF
  cases f ρ <;> rfl
@[simp] theorem x_sIf (t : Tx) (f h : Sx) : sIf t f h ρ = (t ρ >>= fun p => if p.1 = true then f p.2 else h p.2) := (rfl)
@[simp] theorem x_sFor (i : Ix) (t : Gx) (f : Sx) : sFor i t f ρ = (i ρ >>= fun p => lp t f p.1 p.2) := (rfl)
@[simp] theorem x_lp0 (t : Gx) (f : Sx) : lp t f [] ρ = .ok (.next ρ) := (rfl)
theorem x_lp1 (t : Gx) (f : Sx) (d : D) (ds : List D) : lp t f (d :: ds) ρ = (liftO (t d ρ) >>= fun ρ1 => f ρ1 >>= aft (lp t f ds)) := (rfl)
@[simp] theorem x_aft1 (k : Sx) : aft k (.next ρ) = k ρ := (rfl)
@[simp] theorem x_aft2 (k : Sx) : aft k (.cnt ρ) = k ρ := (rfl)
@[simp] theorem x_aft3 (k : Sx) : aft k (.brk ρ) = .ok (.next ρ) := (rfl)
@[simp] theorem x_aft4 (k : Sx) (s : S) : aft k (.ret s ρ) = .ok (.ret s ρ) := (rfl)
@[simp] theorem x_iVal (f : Ex) : iVal l f ρ = (f ρ >>= fun p => fz l p.1 p.2 >>= fun p => liftO (dIter p.1) >>= fun ds => .ok (ds, p.2)) := by
  unfold iVal eF
  cases f ρ <;> rfl
@[simp] theorem x_iRg1 (fa : Ax) : iRg1 fa ρ = (fa ρ >>= fun p => pkL p.2 p.1 >>= fun ds => liftO (int1 ds) >>= fun j => .ok (rgD 0 j.toNat, p.2)) := (rfl)
@[simp] theorem x_iRg2 (fa : Ax) : iRg2 fa ρ = (fa ρ >>= fun p => pkL p.2 p.1 >>= fun ds => liftO (int2 ds) >>= fun j => .ok (rgD j.1 (j.2 - j.1).toNat, p.2)) := (rfl)
@[simp] theorem x_iEn (f : Ex) : iEn l f ρ = (f ρ >>= fun p => fz l p.1 p.2 >>= fun p => liftO (dSeq p.1) >>= fun ds => .ok (enD 0 ds, p.2)) := by
  unfold iEn eF
  cases f ρ <;> rfl
@[simp] theorem x_iZp (fa : Ax) : iZp l fa ρ = (aF l fa ρ >>= fun p => liftO (zip2 p.1) >>= fun ds => .ok (ds, p.2)) := (rfl)
@[simp] theorem x_sRaise (c : Str) : sRaise c ρ = .exc c ρ := (rfl)
@[simp] theorem x_eMl (i : Nat) (od : List D → List D → Option (D × List D)) (fa : Ax) : eMl l i od fa ρ = (match ownD ρ i with
  | some (.lst _) => aF l fa ρ >>= fun p => (match ownD p.2 i with
    | some (.lst ls) => liftO (od ls p.1) >>= fun q => .ok (.v q.1, putO p.2 i (.lst q.2))
    | _ => .stuck)
  | _ => .stuck) := (rfl)
@[simp] theorem x_ownD (i : Nat) : ownD ρ i = (match ρ[i]? with
  | some (some (.o d)) => some d
  | _ => none) := (rfl)
@[simp] theorem x_putO (i : Nat) (d : D) : putO ρ i d = ρ.set i (some (.o d)) := (rfl)
@[simp] theorem x_valD (i : Nat) : valD ρ i = (match ρ[i]? with
  | some (some (.v d)) => some d
  | _ => none) := (rfl)
@[simp] theorem x_sAug (i : Nat) (od : D → D → Option S) (f : Ex) : sAug l i od f ρ = (liftO (valD ρ i) >>= fun d1 => f ρ >>= fun p => PL.pk p.2 p.1 >>= fun d2 => liftO (od d1 d2) >>= fun s => if i ∈ l then .stuck else .ok (.next (p.2.set i (some s)))) := (rfl)
@[simp] theorem x_gSb (i : Nat) (fi : Ex) (v : D) : gSb i fi v ρ = (match ownD ρ i, fi ρ with
  | some _, .ok (s, ρ1) => (match PL.pk ρ1 s, ownD ρ1 i with
    | .ok k, some d => (dSet d k v).map fun d' => putO ρ1 i d'
    | _, _ => none)
  | _, _ => none) := (rfl)
/-! values -/
@[simp] theorem x_lt (i j : Int) : dLt (.int i) (.int j) = some (decide (i < j)) := (rfl)
@[simp] theorem x_le (i j : Int) : dLe (.int i) (.int j) = some (decide (i ≤ j)) := (rfl)
@[simp] theorem x_gt (i j : Int) : dGt (.int i) (.int j) = some (decide (j < i)) := (rfl)
@[simp] theorem x_ge (i j : Int) : dGe (.int i) (.int j) = some (decide (j ≤ i)) := (rfl)
@[simp] theorem x_add (i j : Int) : dAdd (.int i) (.int j) = some (.v (.int (i + j))) := (rfl)
@[simp] theorem x_addT (a b : List D) : dAdd (.tup a) (.tup b) = if a.length + b.length ≤ 16777216 then some (.v (.tup (a ++ b))) else none := (rfl)
@[simp] theorem x_sub (i j : Int) : dSub (.int i) (.int j) = some (.v (.int (i - j))) := (rfl)
@[simp] theorem x_mul (i j : Int) : dMul (.int i) (.int j) = if mulOk i j then some (.v (.int (i * j))) else none := (rfl)
theorem mulOk_l {a b : Int} (h : a.natAbs < 18446744073709551616) : mulOk a b := .inl h
theorem mulOk_r {a b : Int} (h : b.natAbs < 18446744073709551616) : mulOk a b := .inr (.inl h)
@[simp] theorem x_mod (i j : Int) : dMod (.int i) (.int j) = if 0 < j then some (.v (.int (i % j))) else if j ≠ 0 then some (.v (.int (i.fmod j))) else none := (rfl)
@[simp] theorem x_div (a b : Int) : dDiv (.int a) (.int b) = if 0 < b ∧ b.natAbs.log2 < 9000 then some (.v (.int (a / b))) else if b ≠ 0 ∧ b.natAbs < 1073741824 then some (.v (.int (a.fdiv b))) else none := (rfl)
@[simp] theorem x_neg (i : Int) : dNeg (.int i) = some (.v (.int (-i))) := (rfl)
@[simp] theorem x_isN (d : D) : dIs d .non = some (dIsNon d) := (rfl)
@[simp] theorem x_isB (d : D) (k : Bool) : dIs d (.bl k) = some (dIsBl k d) := (rfl)
@[simp] theorem x_isnN (d : D) : dIsNot d .non = some (!dIsNon d) := (rfl)
@[simp] theorem x_isnB (d : D) (k : Bool) : dIsNot d (.bl k) = some (!dIsBl k d) := (rfl)
@[simp] theorem x_isNon1 : dIsNon .non = true := (rfl)
@[simp] theorem x_isNon2 (b : Bool) : dIsNon (.bl b) = false := (rfl)
@[simp] theorem x_isNon3 (b : Int) : dIsNon (.int b) = false := (rfl)
@[simp] theorem x_isNon4 (b : Str) : dIsNon (.str b) = false := (rfl)
@[simp] theorem x_isNon5 (b : List D) : dIsNon (.tup b) = false := (rfl)
@[simp] theorem x_isNon6 (b : List D) : dIsNon (.lst b) = false := (rfl)
@[simp] theorem x_isBl1 (k : Bool) : dIsBl k .non = false := (rfl)
@[simp] theorem x_isBl2 (k b : Bool) : dIsBl k (.bl b) = (b == k) := (rfl)
@[simp] theorem x_isBl3 (k : Bool) (b : Int) : dIsBl k (.int b) = false := (rfl)
@[simp] theorem x_isBl4 (k : Bool) (b : Str) : dIsBl k (.str b) = false := (rfl)
@[simp] theorem x_isBl5 (k : Bool) (b : List D) : dIsBl k (.tup b) = false := (rfl)
@[simp] theorem x_isBl6 (k : Bool) (b : List D) : dIsBl k (.lst b) = false := (rfl)
@[simp] theorem x_truB (b : Bool) : dTru (.bl b) = some b := (rfl)
@[simp] theorem x_int1 (i : Int) : dInt1 [.int i] = some (.v (.int i)) := (rfl)
@[simp] theorem x_int1b (k : Bool) : dInt1 [.bl k] = some (.v (.int (if k then 1 else 0))) := (rfl)
@[simp] theorem x_abs (i : Int) : dAbs [.int i] = some (.v (.int (if i < 0 then -i else i))) := (rfl)
@[simp] theorem x_lenT (ds : List D) : dLen [.tup ds] = some (.v (.int ds.length)) := (rfl)
@[simp] theorem x_lenL (ds : List D) : dLen [.lst ds] = some (.v (.int ds.length)) := (rfl)
@[simp] theorem x_lenK (ds : List D) : dLen [.ktp ds] = some (.v (.int ds.length)) := (rfl)
@[simp] theorem x_lenS (ds : List Int) : dLen [.scr ds] = some (.v (.int ds.length)) := (rfl)
@[simp] theorem x_tupT (ds : List D) : dTup1 [.tup ds] = some (.v (.tup ds)) := (rfl)
@[simp] theorem x_tupL (ds : List D) : dTup1 [.lst ds] = some (.v (.tup ds)) := (rfl)
@[simp] theorem x_lstT (ds : List D) : dLst1 [.tup ds] = some (.o (.lst ds)) := (rfl)
@[simp] theorem x_lstL (ds : List D) : dLst1 [.lst ds] = some (.o (.lst ds)) := (rfl)
@[simp] theorem x_itT (ds : List D) : dIter (.tup ds) = some ds := (rfl)
@[simp] theorem x_itL (ds : List D) : dIter (.lst ds) = some ds := (rfl)
@[simp] theorem x_itK (ds : List D) : dIter (.ktp ds) = some ds := (rfl)
@[simp] theorem x_itS (ns : List Int) : dIter (.scr ns) = some (ns.map .int) := (rfl)
@[simp] theorem x_seqT (ds : List D) : dSeq (.tup ds) = some ds := (rfl)
@[simp] theorem x_seqL (ds : List D) : dSeq (.lst ds) = some ds := (rfl)
@[simp] theorem x_slT (ds : List D) (lo hi : Option Int) : dSl (.tup ds) lo hi = some (.v (.tup (cutG ds lo hi))) := (rfl)
@[simp] theorem x_slL (ds : List D) (lo hi : Option Int) : dSl (.lst ds) lo hi = some (.o (.lst (cutG ds lo hi))) := (rfl)
@[simp] theorem x_slS (ns : List Int) (lo hi : Option Int) : dSl (.scr ns) lo hi = some (.o (.lst ((cutG ns lo hi).map .int))) := (rfl)
@[simp] theorem x_ixT (ds : List D) (i : Int) : dIx (.tup ds) (.int i) = (atI ds i).map .v := (rfl)
@[simp] theorem x_ixL (ds : List D) (i : Int) : dIx (.lst ds) (.int i) = (atI ds i).map .v := (rfl)
@[simp] theorem x_append (ls : List D) (d : D) : mAppend ls [d] = if ls.length < 16777216 then some (.non, ls ++ [d]) else none := (rfl)
@[simp] theorem x_isT_int_non  : isT .int .non = some false := (rfl)
@[simp] theorem x_isT_int_bl (x : Bool) : isT .int (.bl x) = some true := (rfl)
@[simp] theorem x_isT_int_int (x : Int) : isT .int (.int x) = some true := (rfl)
@[simp] theorem x_isT_int_str (x : Str) : isT .int (.str x) = some false := (rfl)
@[simp] theorem x_isT_int_tup (x : List D) : isT .int (.tup x) = some false := (rfl)
@[simp] theorem x_isT_int_lst (x : List D) : isT .int (.lst x) = some false := (rfl)
@[simp] theorem x_isT_int_ktp (x : List D) : isT .int (.ktp x) = some false := (rfl)
@[simp] theorem x_isT_int_scr (x : List Int) : isT .int (.scr x) = some false := (rfl)
@[simp] theorem x_isT_bool_non  : isT .bool .non = some false := (rfl)
@[simp] theorem x_isT_bool_bl (x : Bool) : isT .bool (.bl x) = some true := (rfl)
@[simp] theorem x_isT_bool_int (x : Int) : isT .bool (.int x) = some false := (rfl)
@[simp] theorem x_isT_bool_str (x : Str) : isT .bool (.str x) = some false := (rfl)
@[simp] theorem x_isT_bool_tup (x : List D) : isT .bool (.tup x) = some false := (rfl)
@[simp] theorem x_isT_bool_lst (x : List D) : isT .bool (.lst x) = some false := (rfl)
@[simp] theorem x_isT_bool_ktp (x : List D) : isT .bool (.ktp x) = some false := (rfl)
@[simp] theorem x_isT_bool_scr (x : List Int) : isT .bool (.scr x) = some false := (rfl)
@[simp] theorem x_isT_str_non  : isT .str .non = some false := (rfl)
@[simp] theorem x_isT_str_bl (x : Bool) : isT .str (.bl x) = some false := (rfl)
@[simp] theorem x_isT_str_int (x : Int) : isT .str (.int x) = some false := (rfl)
@[simp] theorem x_isT_str_str (x : Str) : isT .str (.str x) = some true := (rfl)
@[simp] theorem x_isT_str_tup (x : List D) : isT .str (.tup x) = some false := (rfl)
@[simp] theorem x_isT_str_lst (x : List D) : isT .str (.lst x) = some false := (rfl)
@[simp] theorem x_isT_str_ktp (x : List D) : isT .str (.ktp x) = some false := (rfl)
@[simp] theorem x_isT_str_scr (x : List Int) : isT .str (.scr x) = some false := (rfl)
@[simp] theorem x_isT_tuple_non  : isT .tuple .non = some false := (rfl)
@[simp] theorem x_isT_tuple_bl (x : Bool) : isT .tuple (.bl x) = some false := (rfl)
@[simp] theorem x_isT_tuple_int (x : Int) : isT .tuple (.int x) = some false := (rfl)
@[simp] theorem x_isT_tuple_str (x : Str) : isT .tuple (.str x) = some false := (rfl)
@[simp] theorem x_isT_tuple_tup (x : List D) : isT .tuple (.tup x) = some true := (rfl)
@[simp] theorem x_isT_tuple_lst (x : List D) : isT .tuple (.lst x) = some false := (rfl)
@[simp] theorem x_isT_tuple_ktp (x : List D) : isT .tuple (.ktp x) = some true := (rfl)
@[simp] theorem x_isT_tuple_scr (x : List Int) : isT .tuple (.scr x) = some false := (rfl)
@[simp] theorem x_isT_list_non  : isT .list .non = some false := (rfl)
@[simp] theorem x_isT_list_bl (x : Bool) : isT .list (.bl x) = some false := (rfl)
@[simp] theorem x_isT_list_int (x : Int) : isT .list (.int x) = some false := (rfl)
@[simp] theorem x_isT_list_str (x : Str) : isT .list (.str x) = some false := (rfl)
@[simp] theorem x_isT_list_tup (x : List D) : isT .list (.tup x) = some false := (rfl)
@[simp] theorem x_isT_list_lst (x : List D) : isT .list (.lst x) = some true := (rfl)
@[simp] theorem x_isT_list_ktp (x : List D) : isT .list (.ktp x) = some false := (rfl)
@[simp] theorem x_isT_list_scr (x : List Int) : isT .list (.scr x) = some true := (rfl)
@[simp] theorem x_isT_dict_non  : isT .dict .non = some false := (rfl)
@[simp] theorem x_isT_dict_bl (x : Bool) : isT .dict (.bl x) = some false := (rfl)
@[simp] theorem x_isT_dict_int (x : Int) : isT .dict (.int x) = some false := (rfl)
@[simp] theorem x_isT_dict_str (x : Str) : isT .dict (.str x) = some false := (rfl)
@[simp] theorem x_isT_dict_tup (x : List D) : isT .dict (.tup x) = some false := (rfl)
@[simp] theorem x_isT_dict_lst (x : List D) : isT .dict (.lst x) = some false := (rfl)
@[simp] theorem x_isT_dict_ktp (x : List D) : isT .dict (.ktp x) = some false := (rfl)
@[simp] theorem x_isT_dict_scr (x : List Int) : isT .dict (.scr x) = some false := (rfl)
theorem x_eq_int (i j : Int) : eqD (.int i) (.int j) = decide (i = j) := by
  show (i == j) = decide (i = j)
  by_cases h : i = j <;> simp [h]
@[simp] theorem x_dEq_int (i j : Int) : dEq (.int i) (.int j) = some (decide (i = j)) := by
  unfold dEq
  rw [if_pos (show flatX (.int i) (.int j) = true from rfl), x_eq_int]
theorem x_eq_str (i j : Str) : eqD (.str i) (.str j) = decide (i = j) := by
  show (i == j) = decide (i = j)
  by_cases h : i = j <;> simp [h]
@[simp] theorem x_dEq_str (i j : Str) : dEq (.str i) (.str j) = some (decide (i = j)) := by
  unfold dEq
  rw [if_pos (show flatX (.str i) (.str j) = true from rfl), x_eq_str]
@[simp] theorem x_dNe (d e : D) : dNe d e = (dEq d e).map (!·) := (rfl)
/-! loops -/
/-- a loop none of whose turns leaves it: I by the items done -/
theorem lp_next {t : Gx} {f : Sx} (I : List D → Rho → Prop) : ∀ (rest done : List D) (ρ : Rho), I done ρ → (∀ dn d r ρ, done ++ rest = dn ++ d :: r → I dn ρ → ∃ ρ1, t d ρ = some ρ1 ∧ ∃ ρ', (f ρ1 = .ok (.next ρ') ∨ f ρ1 = .ok (.cnt ρ')) ∧ I (dn ++ [d]) ρ') →
    ∃ ρ', lp t f rest ρ = .ok (.next ρ') ∧ I (done ++ rest) ρ'
  | [], done, ρ, h, _ => ⟨ρ, rfl, by rw [List.append_nil]; exact h⟩
  | d :: rest, done, ρ, h, hs => by
    obtain ⟨ρ1, h1, ρ', h2, h3⟩ := hs done d rest ρ rfl h
    obtain ⟨ρ2, h4, h5⟩ := lp_next I rest (done ++ [d]) ρ' h3 fun dn d' r ρ e => hs dn d' r ρ (by rw [← e, List.append_assoc]; rfl)
    refine ⟨ρ2, ?_, by rw [List.append_assoc] at h5; exact h5⟩
    rw [x_lp1, h1]
    rcases h2 with h2 | h2
    · rw [liftO_some, bind_ok, h2, bind_ok, x_aft1, h4]
    · rw [liftO_some, bind_ok, h2, bind_ok, x_aft2, h4]
/-- a loop that goes on while p holds, and else hands back z -/
theorem lp_all {t : Gx} {f : Sx} (I : Rho → Prop) (p : D → Bool) (z : D) : ∀ (ds : List D) (ρ : Rho), I ρ → (∀ d ρ, d ∈ ds → I ρ → ∃ ρ1, t d ρ = some ρ1 ∧ ∃ ρ', f ρ1 = (if p d = true then .ok (.next ρ') else .ok (.ret (.v z) ρ')) ∧ I ρ') →
    ∃ ρ', lp t f ds ρ = (if ds.all p = true then .ok (.next ρ') else .ok (.ret (.v z) ρ')) ∧ I ρ'
  | [], ρ, h, _ => ⟨ρ, rfl, h⟩
  | d :: ds, ρ, h, hs => by
    obtain ⟨ρ1, h1, ρ', h2, h3⟩ := hs d ρ List.mem_cons_self h
    rw [x_lp1, h1]
    simp only [liftO_some, bind_ok, h2, List.all_cons]
    by_cases hp : p d = true
    · obtain ⟨ρ2, h4, h5⟩ := lp_all I p z ds ρ' h3 fun d' ρ hd => hs d' ρ (List.mem_cons_of_mem _ hd)
      refine ⟨ρ2, ?_, h5⟩
      rw [if_pos hp, bind_ok, x_aft1, h4]
      simp [hp]
    · refine ⟨ρ', ?_, h3⟩
      rw [if_neg hp, bind_ok, x_aft4]
      simp [hp]
end
/-! comprehensions -/
@[simp] theorem x_tsNo (ρ : Rho) : tsNo ρ = .ok (true, ρ) := (rfl)
@[simp] theorem x_nox {α : Type} (a : α) : nox (.ok a) = .ok a := (rfl)
theorem x_eLc (l vs : List Nat) (fi : Ix) (ft : Gx) (tt : Tx) (fe : Ex) (ρ : Rho) : eLc l vs fi ft tt fe ρ = (fi ρ >>= fun p => if (∀ i ∈ vs, i ∉ l) then nox (lcLp l vs ft tt fe p.1 (wipeE p.2 vs) []) >>= fun q => .ok (.o (.lst q.1), unwipe vs p.2 q.2) else .stuck) := (rfl)
/-- a comprehension whose turns leave the state as it was -/
theorem lc_eq {l vs : List Nat} {ft : Gx} {tt : Tx} {fe : Ex} {ρ0 : Rho} (c : D → Bool) (h : D → D) : ∀ (ds acc : List D), acc.length + ds.length ≤ 16777216 →
    (∀ d, d ∈ ds → ∃ ρ1 ρ2, ft d ρ0 = some ρ1 ∧ tt ρ1 = .ok (c d, ρ2) ∧ (if c d = true then ∃ ρ3, eF l fe ρ2 = .ok (h d, ρ3) ∧ wipeE ρ3 vs = ρ0 else wipeE ρ2 vs = ρ0)) →
    lcLp l vs ft tt fe ds ρ0 acc = .ok (acc ++ (ds.filter c).map h, ρ0)
  | [], acc, _, _ => by simp [lcLp]
  | d :: ds, acc, hl, hs => by
    obtain ⟨ρ1, ρ2, h1, h2, h3⟩ := hs d List.mem_cons_self
    have ih := fun acc' hl' => lc_eq (l := l) (vs := vs) (ft := ft) (tt := tt) (fe := fe) (ρ0 := ρ0) c h ds acc' hl' fun d' hd => hs d' (List.mem_cons_of_mem _ hd)
    rw [List.length_cons] at hl
    rw [lcLp, h1, liftO_some, bind_ok, h2, bind_ok]
    by_cases hc : c d = true
    · rw [if_pos hc] at h3
      obtain ⟨ρ3, h4, h5⟩ := h3
      rw [if_pos hc, h4, bind_ok, if_pos (by omega), h5, ih (acc ++ [h d]) (by rw [List.length_append, List.length_singleton]; omega)]
      rw [List.filter_cons_of_pos hc, List.map_cons, List.append_assoc]
      rfl
    · rw [if_neg hc] at h3
      rw [if_neg hc, h3, ih acc (by omega), List.filter_cons_of_neg hc]
theorem lc_map {l vs : List Nat} {ft : Gx} {fe : Ex} {ρ0 : Rho} (h : D → D) (ds : List D) (hl : ds.length ≤ 16777216)
    (hs : ∀ d, d ∈ ds → ∃ ρ1 ρ3, ft d ρ0 = some ρ1 ∧ eF l fe ρ1 = .ok (h d, ρ3) ∧ wipeE ρ3 vs = ρ0) : lcLp l vs ft tsNo fe ds ρ0 [] = .ok (ds.map h, ρ0) := by
  rw [lc_eq (fun _ => true) h ds [] (by simpa using hl) fun d hd => ?_]
  · rw [List.filter_eq_self.mpr (fun _ _ => rfl)]
    rfl
  · obtain ⟨ρ1, ρ3, h1, h2, h3⟩ := hs d hd
    exact ⟨ρ1, ρ1, h1, rfl, by rw [if_pos rfl]; exact ⟨ρ3, h2, h3⟩⟩
theorem x_bls : ∀ bs : List Bool, blsD (bs.map .bl) = some bs
  | [] => rfl
  | b :: bs => by rw [List.map_cons, blsD, x_bls bs]; rfl
theorem x_blsM {α : Type} (f : α → Bool) (xs : List α) : blsD (xs.map fun x => .bl (f x)) = some (xs.map f) := by
  rw [← x_bls (xs.map f), List.map_map]
  rfl
theorem x_ints : ∀ ns : List Int, intsD (ns.map .int) = some ns
  | [] => rfl
  | b :: bs => by rw [List.map_cons, intsD, x_ints bs]; rfl
@[simp] theorem x_wipe0 (ρ : Rho) : wipeE ρ [] = ρ := (rfl)
@[simp] theorem x_wipe1 (ρ : Rho) (v : Nat) (vs : List Nat) : wipeE ρ (v :: vs) = (wipeE ρ vs).set v none := (rfl)
@[simp] theorem x_unwipe0 (ρ ρ' : Rho) : unwipe [] ρ ρ' = ρ' := (rfl)
@[simp] theorem x_unwipe1 (ρ ρ' : Rho) (v : Nat) (vs : List Nat) : unwipe (v :: vs) ρ ρ' = (unwipe vs ρ ρ').set v (match ρ[v]? with
    | some (some (.v d)) => some (.v d)
    | _ => none) := (rfl)
@[simp] theorem x_allL (ds : List D) : dAll [.lst ds] = (blsD ds).map fun bs => .v (.bl (bs.all id)) := (rfl)
@[simp] theorem x_anyL (ds : List D) : dAny [.lst ds] = (blsD ds).map fun bs => .v (.bl (bs.any id)) := (rfl)
@[simp] theorem x_sumL (ds : List D) : dSum [.lst ds] = (intsD ds).map fun ns => .v (.int ns.sum) := (rfl)
/-! try -/
theorem x_sTry (need : Nat) (tab : List (Str × Bool)) (h : Hx) (f : Sx) (ρ : Rho) : sTry need tab h f ρ = (match f ρ with
  | .ok r => .ok r
  | .stuck => .stuck
  | .exc c ρ' => match look tab c with
    | some true => (match h c with
      | some d => if need ≤ ρ'.length then .ok (.ret (.v d) ρ') else .stuck
      | none => .stuck)
    | some false => .exc c ρ'
    | none => .stuck) := (rfl)
@[simp] theorem x_hC (d : D) (c : Str) : hC d c = some d := (rfl)
@[simp] theorem x_hIs (tab : List (Str × Bool)) (c : Str) : hIs tab c = (look tab c).map .bl := (rfl)
@[simp] theorem x_hAnd (h1 h2 : Hx) (c : Str) : hAnd h1 h2 c = (match h1 c with
  | some (.bl true) => h2 c
  | some (.bl false) => some (.bl false)
  | _ => none) := (rfl)
@[simp] theorem x_hNot (h1 : Hx) (c : Str) : hNot h1 c = (match h1 c with
  | some (.bl k) => some (.bl (!k))
  | _ => none) := (rfl)
/-! places -/
theorem atI_ofNat {α : Type} (xs : List α) (k : Nat) (x : α) (h : xs[k]? = some x) : L2.atI xs (k : Int) = some x := L2.atI_nat h
theorem atI_pos {α : Type} {xs : List α} {i : Int} (h0 : 0 ≤ i) : L2.atI xs i = xs[i.toNat]? := by
  unfold L2.atI L2.ixN
  rw [if_pos h0]
  split
  · rfl
  · rw [List.getElem?_eq_none (by omega)]; rfl
/-! values of the same shape -/
def dep : D → Nat := fun d => PyData.depth (toPy d)
/-! loops over a mapped list -/
theorem lp_foldM {α β : Type} {t : Gx} {f : Sx} {h : β → D} (st : α → Rho → Prop) (g : α → β → α) : ∀ (xs : List β) (a : α) (ρ : Rho), st a ρ →
    (∀ a x ρ, x ∈ xs → st a ρ → ∃ ρ1, t (h x) ρ = some ρ1 ∧ ∃ ρ', f ρ1 = .ok (.next ρ') ∧ st (g a x) ρ') → ∃ ρ', lp t f (xs.map h) ρ = .ok (.next ρ') ∧ st (xs.foldl g a) ρ'
  | [], a, ρ, h0, _ => ⟨ρ, rfl, h0⟩
  | x :: xs, a, ρ, h0, hs => by
    obtain ⟨ρ1, h1, ρ', h2, h3⟩ := hs a x ρ List.mem_cons_self h0
    obtain ⟨ρ2, h4, h5⟩ := lp_foldM (t := t) (f := f) (h := h) st g xs (g a x) ρ' h3 fun a y ρ hy => hs a y ρ (List.mem_cons_of_mem _ hy)
    refine ⟨ρ2, ?_, h5⟩
    rw [List.map_cons, x_lp1, h1, liftO_some, bind_ok, h2, bind_ok, x_aft1, h4]
theorem lp_invM {β : Type} {t : Gx} {f : Sx} {h : β → D} (I : Rho → Prop) (xs : List β) (ρ : Rho) (h0 : I ρ)
    (hs : ∀ x ρ, x ∈ xs → I ρ → ∃ ρ1, t (h x) ρ = some ρ1 ∧ ∃ ρ', f ρ1 = .ok (.next ρ') ∧ I ρ') : ∃ ρ', lp t f (xs.map h) ρ = .ok (.next ρ') ∧ I ρ' :=
  lp_foldM (fun (_ : Unit) ρ => I ρ) (fun _ _ => ()) xs () ρ h0 fun _ x ρ hx hi => hs x ρ hx hi
theorem lp_inv {t : Gx} {f : Sx} (I : Rho → Prop) (ds : List D) (ρ : Rho) (h0 : I ρ)
    (hs : ∀ x ρ, x ∈ ds → I ρ → ∃ ρ1, t x ρ = some ρ1 ∧ ∃ ρ', f ρ1 = .ok (.next ρ') ∧ I ρ') : ∃ ρ', lp t f ds ρ = .ok (.next ρ') ∧ I ρ' := by
  have := lp_invM (t := t) (f := f) (h := id) I ds ρ h0 hs
  rwa [List.map_id] at this
/-- by the turn: a is what stands behind i turns -/
theorem lp_numM {β : Type} {t : Gx} {f : Sx} {h : β → D} (xs : List β) (I : Nat → Rho → Prop) (ρ : Rho) (h0 : I 0 ρ)
    (hs : ∀ i x ρ, xs[i]? = some x → I i ρ → ∃ ρ1, t (h x) ρ = some ρ1 ∧ ∃ ρ', f ρ1 = .ok (.next ρ') ∧ I (i + 1) ρ') : ∃ ρ', lp t f (xs.map h) ρ = .ok (.next ρ') ∧ I xs.length ρ' := by
  have aux : ∀ (ys : List β) (k : Nat) (ρ : Rho), xs.drop k = ys → I k ρ → ∃ ρ', lp t f (ys.map h) ρ = .ok (.next ρ') ∧ I (k + ys.length) ρ' := fun ys => by
    induction ys with
    | nil => exact fun k ρ _ hk => ⟨ρ, rfl, hk⟩
    | cons y ys ih =>
      intro k ρ e hk
      have hy : xs[k]? = some y := by
        have := congrArg (fun l => l[0]?) e
        simpa using this
      obtain ⟨ρ1, h1, ρ', h2, h3⟩ := hs k y ρ hy hk
      obtain ⟨ρ2, h4, h5⟩ := ih (k + 1) ρ' (by rw [← List.drop_drop, e]; rfl) h3
      refine ⟨ρ2, ?_, by rw [List.length_cons, Nat.add_comm ys.length 1, ← Nat.add_assoc]; exact h5⟩
      rw [List.map_cons, x_lp1, h1, liftO_some, bind_ok, h2, bind_ok, x_aft1, h4]
  have := aux xs 0 ρ rfl h0
  rwa [Nat.zero_add] at this
theorem lp_allM {β : Type} {t : Gx} {f : Sx} {h : β → D} (I : Rho → Prop) (p : β → Bool) (z : D) : ∀ (xs : List β) (ρ : Rho), I ρ → (∀ x ρ, x ∈ xs → I ρ → ∃ ρ1, t (h x) ρ = some ρ1 ∧ ∃ ρ', f ρ1 = (if p x = true then .ok (.next ρ') else .ok (.ret (.v z) ρ')) ∧ I ρ') →
    ∃ ρ', lp t f (xs.map h) ρ = (if xs.all p = true then .ok (.next ρ') else .ok (.ret (.v z) ρ')) ∧ I ρ'
  | [], ρ, h0, _ => ⟨ρ, rfl, h0⟩
  | d :: ds, ρ, h0, hs => by
    obtain ⟨ρ1, h1, ρ', h2, h3⟩ := hs d ρ List.mem_cons_self h0
    rw [List.map_cons, x_lp1, h1]
    simp only [liftO_some, bind_ok, h2, List.all_cons]
    by_cases hp : p d = true
    · obtain ⟨ρ2, h4, h5⟩ := lp_allM (t := t) (f := f) (h := h) I p z ds ρ' h3 fun d' ρ hd => hs d' ρ (List.mem_cons_of_mem _ hd)
      refine ⟨ρ2, ?_, h5⟩
      rw [if_pos hp, bind_ok, x_aft1, h4]
      simp [hp]
    · refine ⟨ρ', ?_, h3⟩
      rw [if_neg hp, bind_ok, x_aft4]
      simp [hp]
/-- the reckoning raises c -/
def isX {α : Type} (r : Out α) (c : Str) : Prop := match r with
  | .exc c' _ => c' = c
  | _ => False
@[simp] theorem x_isX {α : Type} (c c' : Str) (ρ : Rho) : isX (Out.exc c ρ : Out α) c' = (c = c') := (rfl)
theorem isX_is {α : Type} {r : Out α} {c : Str} (h : isX r c) : ∃ ρ, r = .exc c ρ := by
  cases r with
  | ok a => exact h.elim
  | stuck => exact h.elim
  | exc c' ρ => cases (show c' = c from h); exact ⟨ρ, rfl⟩
theorem x_int2 (i j : Int) (h : -4611686018427387904 ≤ i ∧ i < 4611686018427387904 ∧ -4611686018427387904 ≤ j ∧ j < 4611686018427387904) : int2 [.int i, .int j] = some (i, j) := by
  unfold int2
  exact if_pos h
theorem x_int1' (j : Int) (h : -4611686018427387904 ≤ j ∧ j < 4611686018427387904) : PL.int1 [.int j] = some j := by
  unfold PL.int1
  exact if_pos h
/-- a loop that appends -/
theorem lp_acc {β : Type} {t : Gx} {f : Sx} {h : β → D} (St : List D → Rho → Prop) (p : β → Bool) (k : β → D) (N : Nat) : ∀ (xs : List β) (acc : List D) (ρ : Rho), acc.length + xs.length ≤ N → St acc ρ →
    (∀ x acc ρ, x ∈ xs → acc.length < N → St acc ρ → ∃ ρ1, t (h x) ρ = some ρ1 ∧ ∃ ρ', f ρ1 = .ok (.next ρ') ∧ St (if p x = true then acc ++ [k x] else acc) ρ') → ∃ ρ', lp t f (xs.map h) ρ = .ok (.next ρ') ∧ St (acc ++ (xs.filter p).map k) ρ'
  | [], acc, ρ, _, h0, _ => ⟨ρ, rfl, by simpa using h0⟩
  | x :: xs, acc, ρ, hN, h0, hs => by
    rw [List.length_cons] at hN
    obtain ⟨ρ1, h1, ρ', h2, h3⟩ := hs x acc ρ List.mem_cons_self (by omega) h0
    have hl : (if p x = true then acc ++ [k x] else acc).length + xs.length ≤ N := by
      split
      · rw [List.length_append, List.length_singleton]; omega
      · omega
    obtain ⟨ρ2, h4, h5⟩ := lp_acc (t := t) (f := f) (h := h) St p k N xs _ ρ' hl h3 fun y acc ρ hy => hs y acc ρ (List.mem_cons_of_mem _ hy)
    refine ⟨ρ2, ?_, ?_⟩
    · rw [List.map_cons, x_lp1, h1, liftO_some, bind_ok, h2, bind_ok, x_aft1, h4]
    · by_cases hp : p x = true
      · rw [if_pos hp] at h5
        rw [List.filter_cons_of_pos hp, List.map_cons]
        rw [List.append_assoc] at h5
        exact h5
      · rw [if_neg hp] at h5
        rw [List.filter_cons_of_neg hp]
        exact h5
theorem rg_zip {β : Type} (xs : List β) : rgD 0 xs.length = xs.zipIdx.map fun p => .int ((p.2 : Nat) : Int) := by
  apply List.ext_getElem?
  intro i
  unfold rgD
  rw [List.getElem?_map, List.getElem?_map, List.getElem?_zipIdx]
  by_cases hi : i < xs.length
  · rw [List.getElem?_range hi, List.getElem?_eq_getElem hi]
    simp
  · rw [List.getElem?_eq_none (by simpa using hi), List.getElem?_eq_none (by simpa using hi)]
    rfl
theorem en_zip {β : Type} (h : β → D) (xs : List β) : enD 0 (xs.map h) = xs.zipIdx.map fun p => .tup [.int ((p.2 : Nat) : Int), h p.1] := by
  apply List.ext_getElem?
  intro i
  rw [enD_get, List.getElem?_map, List.getElem?_map, List.getElem?_zipIdx]
  cases xs[i]? <;> rfl
theorem mem_zip {β : Type} {xs : List β} {p : β × Nat} (h : p ∈ xs.zipIdx) : xs[p.2]? = some p.1 := by
  rw [List.mem_zipIdx_iff_getElem?] at h
  exact h
theorem lc_eqM {β : Type} {l vs : List Nat} {ft : Gx} {tt : Tx} {fe : Ex} {ρ0 : Rho} {h0 : β → D} (c : β → Bool) (k : β → D) : ∀ (xs : List β) (acc : List D), acc.length + xs.length ≤ 16777216 →
    (∀ x, x ∈ xs → ∃ ρ1 ρ2, ft (h0 x) ρ0 = some ρ1 ∧ tt ρ1 = .ok (c x, ρ2) ∧ (c x = true → ∃ ρ3, eF l fe ρ2 = .ok (k x, ρ3) ∧ wipeE ρ3 vs = ρ0) ∧ (c x = false → wipeE ρ2 vs = ρ0)) →
    lcLp l vs ft tt fe (xs.map h0) ρ0 acc = .ok (acc ++ (xs.filter c).map k, ρ0)
  | [], acc, _, _ => by simp [lcLp]
  | d :: ds, acc, hl, hs => by
    obtain ⟨ρ1, ρ2, h1, h2, h3, h3'⟩ := hs d List.mem_cons_self
    have ih := fun acc' hl' => lc_eqM (l := l) (vs := vs) (ft := ft) (tt := tt) (fe := fe) (ρ0 := ρ0) (h0 := h0) c k ds acc' hl' fun d' hd => hs d' (List.mem_cons_of_mem _ hd)
    rw [List.length_cons] at hl
    rw [List.map_cons, lcLp, h1, liftO_some, bind_ok, h2, bind_ok]
    by_cases hc : c d = true
    · obtain ⟨ρ3, h4, h5⟩ := h3 hc
      rw [if_pos hc, h4, bind_ok, if_pos (by omega), h5, ih (acc ++ [k d]) (by rw [List.length_append, List.length_singleton]; omega)]
      rw [List.filter_cons_of_pos hc, List.map_cons, List.append_assoc]
      rfl
    · rw [if_neg hc, h3' (by simpa using hc), ih acc (by omega), List.filter_cons_of_neg hc]
theorem lc_mapM {β : Type} {l vs : List Nat} {ft : Gx} {fe : Ex} {ρ0 : Rho} {h0 : β → D} (k : β → D) (xs : List β) (hl : xs.length ≤ 16777216)
    (hs : ∀ x, x ∈ xs → ∃ ρ1 ρ3, ft (h0 x) ρ0 = some ρ1 ∧ eF l fe ρ1 = .ok (k x, ρ3) ∧ wipeE ρ3 vs = ρ0) : lcLp l vs ft tsNo fe (xs.map h0) ρ0 [] = .ok (xs.map k, ρ0) := by
  rw [lc_eqM (fun _ => true) k xs [] (by simpa using hl) fun d hd => ?_]
  · rw [List.filter_eq_self.mpr (fun _ _ => rfl)]
    rfl
  · obtain ⟨ρ1, ρ3, h1, h2, h3⟩ := hs d hd
    exact ⟨ρ1, ρ1, h1, rfl, fun _ => ⟨ρ3, h2, h3⟩, fun z => by cases z⟩
@[simp] theorem x_mulT (a : List D) (k : Int) : dMul (.tup a) (.int k) = if 0 < a.length ∧ a.length ≤ 1000 ∧ 2 ≤ k ∧ k ≤ 1000 then some (.v (.tup (List.replicate k.toNat a).flatten)) else none := (rfl)
@[simp] theorem x_mulLs (a : List D) (k : Int) : dMul (.lst a) (.int k) = if a.length * k.toNat ≤ 16777216 ∧ -9223372036854775808 ≤ k ∧ k < 9223372036854775808 then some (.o (.lst (List.replicate k.toNat a).flatten)) else none := (rfl)
@[simp] theorem x_min2 (i j : Int) : dMin [.int i, .int j] = some (.v (.int (if j < i then j else i))) := (rfl)
@[simp] theorem x_max2 (i j : Int) : dMax [.int i, .int j] = some (.v (.int (if j > i then j else i))) := (rfl)
theorem x_mulL {a b : Int} (h : a.natAbs < 18446744073709551616) : dMul (.int a) (.int b) = some (.v (.int (a * b))) := by rw [x_mul, if_pos (mulOk_l h)]
theorem x_mulR {a b : Int} (h : b.natAbs < 18446744073709551616) : dMul (.int a) (.int b) = some (.v (.int (a * b))) := by rw [x_mul, if_pos (mulOk_r h)]
end PL

/-! what the mirrors compute: dicts, texts, in-out calls -/
namespace PL
open PySem PySem.Spec PyProof.Rows L2
section
variable {ρ : Rho} {l : List Nat}
@[simp] theorem x_len1T (ds : List D) : dLen1 [.tup ds] = some (.v (.int ds.length)) := (rfl)
@[simp] theorem x_len1L (ds : List D) : dLen1 [.lst ds] = some (.v (.int ds.length)) := (rfl)
@[simp] theorem x_len1K (ds : List D) : dLen1 [.ktp ds] = some (.v (.int ds.length)) := (rfl)
@[simp] theorem x_len1S (ds : List Int) : dLen1 [.scr ds] = some (.v (.int ds.length)) := (rfl)
@[simp] theorem x_len1Z (z : Str) : dLen1 [.str z] = if z.length ≤ 16777216 then some (.v (.int z.length)) else none := (rfl)
@[simp] theorem x_len1D (kvs : List (D × D)) : dLen1 [.dic false kvs] = some (.v (.int kvs.length)) := (rfl)
@[simp] theorem x_dnew (t : Bool) : eDNew t ρ = .ok (.o (.dic t []), ρ) := (rfl)
@[simp] theorem x_get2 (fo fk fx : Ex) : eGet2 l fo fk fx ρ = (fo ρ >>= fun p => PL.pk p.2 p.1 >>= fun d0 => liftO (isDic d0) >>= fun _ => fk p.2 >>= fun q => (fx q.2 >>= fun r => fz l r.1 r.2) >>= fun r => PL.pk r.2 p.1 >>= fun d => PL.pk r.2 q.1 >>= fun k => liftO (dGet d k) >>= fun o => .ok (.v (o.getD r.1), r.2)) := (rfl)
@[simp] theorem x_get1 (fo fk : Ex) : eGet1 fo fk ρ = (fo ρ >>= fun p => PL.pk p.2 p.1 >>= fun d0 => liftO (isDic d0) >>= fun _ => fk p.2 >>= fun q => PL.pk q.2 p.1 >>= fun d => PL.pk q.2 q.1 >>= fun k => liftO (dGet d k) >>= fun o => .ok (.v (o.getD .non), q.2)) := (rfl)
@[simp] theorem x_isDic (t : Bool) (kvs : List (D × D)) : isDic (.dic t kvs) = some () := (rfl)
@[simp] theorem x_dGetS (kvs : List (D × D)) (z : Str) : dGet (.dic false kvs) (.str z) = some (gGet false kvs [.inr z]) := (rfl)
@[simp] theorem x_dGetI (kvs : List (D × D)) (i : Int) : dGet (.dic false kvs) (.int i) = some (gGet false kvs [.inl i]) := (rfl)
@[simp] theorem x_ixDS (kvs : List (D × D)) (z : Str) : dIx (.dic false kvs) (.str z) = (gGet false kvs [.inr z]).map .v := (rfl)
@[simp] theorem x_ixDI (kvs : List (D × D)) (i : Int) : dIx (.dic false kvs) (.int i) = (gGet false kvs [.inl i]).map .v := (rfl)
@[simp] theorem x_ixZ (z : Str) (i : Int) : dIx (.str z) (.int i) = if z.length ≤ 16777216 then (atI z.cps.toList i).map fun c => .v (.str ⟨#[c]⟩) else none := (rfl)
@[simp] theorem x_inDS (kvs : List (D × D)) (z : Str) : dIn (.str z) (.dic false kvs) = some (gGet false kvs [.inr z]).isSome := (rfl)
@[simp] theorem x_inDI (kvs : List (D × D)) (i : Int) : dIn (.int i) (.dic false kvs) = some (gGet false kvs [.inl i]).isSome := (rfl)
@[simp] theorem x_inZ (a b : Str) : dIn (.str a) (.str b) = some (strIn a b) := (rfl)
@[simp] theorem x_notin (a b : D) : dNotIn a b = (dIn a b).map (!·) := (rfl)
@[simp] theorem x_setDS (kvs : List (D × D)) (z : Str) (v : D) : dSet (.dic false kvs) (.str z) v = if kvs.length < 16777216 then some (.dic false (gPut false kvs [.inr z] (.str z) v)) else none := (rfl)
@[simp] theorem x_setDI (kvs : List (D × D)) (z : Int) (v : D) : dSet (.dic false kvs) (.int z) v = if kvs.length < 16777216 then some (.dic false (gPut false kvs [.inl z] (.int z) v)) else none := (rfl)
@[simp] theorem x_itD (t : Bool) (kvs : List (D × D)) : dIter (.dic t kvs) = some (kvs.map (·.1)) := (rfl)
@[simp] theorem x_itZ (z : Str) : dIter (.str z) = some (z.cps.toList.map fun c => .str ⟨#[c]⟩) := (rfl)
@[simp] theorem x_gcd (a b : Int) : dGcd [.int a, .int b] = some (.v (.int (Nat.gcd a.natAbs b.natAbs : Nat))) := (rfl)
@[simp] theorem x_revL (ds : List D) : dRev (.lst ds) = some (.o (.lst ds.reverse)) := (rfl)
@[simp] theorem x_extend (ls zs : List D) : mExtend ls [.lst zs] = if ls.length + zs.length ≤ 16777216 then some (.non, ls ++ zs) else none := (rfl)
@[simp] theorem x_join (fo fe : Ex) : eJoin fo fe ρ = (fo ρ >>= fun p => liftO (strS p.1) >>= fun a => fe p.2 >>= fun q => PL.pk q.2 q.1 >>= fun d => liftO (dJoin a d) >>= fun s => .ok (s, q.2)) := (rfl)
@[simp] theorem x_strS (a : Str) : strS (.v (.str a)) = some a := (rfl)
@[simp] theorem x_iDc (sel : D → Option (List D)) (f : Ex) : iDc l sel f ρ = (f ρ >>= fun p => fz l p.1 p.2 >>= fun p => liftO (sel p.1) >>= fun ds => .ok (ds, p.2)) := by
  unfold iDc eF
  cases f ρ <;> rfl
@[simp] theorem x_vals (kvs : List (D × D)) : dVals (.dic false kvs) = some (kvs.map (·.2)) := (rfl)
@[simp] theorem x_items (kvs : List (D × D)) : dItems (.dic false kvs) = some (kvs.map fun p => .tup [p.1, p.2]) := (rfl)
@[simp] theorem x_iRg3 (fa : Ax) : iRg3 fa ρ = (fa ρ >>= fun p => pkL p.2 p.1 >>= fun ds => liftO (int3 ds) >>= fun j => .ok (rg3D j.1 j.2.2 (rgN j.1 j.2.1 j.2.2), p.2)) := (rfl)
/-! ### sorted -/
theorem strsD_map : ∀ zs : List Str, strsD (zs.map .str) = some zs
  | [] => rfl
  | z :: zs => by rw [List.map_cons]; unfold strsD; rw [strsD_map zs]; rfl
theorem intsD_map : ∀ zs : List Int, intsD (zs.map .int) = some zs
  | [] => rfl
  | z :: zs => by rw [List.map_cons]; unfold intsD; rw [intsD_map zs]; rfl
theorem x_srtI (zs : List Int) : dSrt [.lst (zs.map .int)] = some (.o (.lst ((srtI zs).map .int))) := by
  simp only [dSrt, intsD_map]
theorem x_srtS (zs : List Str) (h : zs.length < 64) : dSrt [.lst (zs.map .str)] = some (.o (.lst ((srtS zs).map .str))) := by
  cases zs with
  | nil => simp [dSrt, intsD, srtI, srtS]
  | cons z zs =>
    have e : intsD ((z :: zs).map D.str) = none := rfl
    simp only [dSrt, e, strsD_map]
    rw [if_pos h]
theorem x_srtDS {kvs : List (D × D)} {zs : List Str} (e : kvs.map (·.1) = zs.map .str) (h : zs.length < 64) : dSrt [.dic false kvs] = some (.o (.lst ((srtS zs).map .str))) := by
  simp only [dSrt, e, strsD_map]
  rw [if_pos h]
/-! ### dicts -/
theorem kOfS (z : Str) : kOf false (.str z) = some [.inr z] := rfl
theorem gGet_put {kvs : List (D × D)} {k k' : List Key} {kd v : D} (h : kOf false kd = some k) : gGet false (gPut false kvs k kd v) k' = if k' = k then some v else gGet false kvs k' := by
  unfold gPut
  split
  · rename_i hs
    by_cases e : k' = k
    · subst e
      rw [if_pos rfl]
      induction kvs with
      | nil => simp [gGet] at hs
      | cons p r ih =>
        rw [List.map_cons]
        by_cases e2 : kOf false p.1 = some k'
        · rw [if_pos e2, gGet_pos (by exact e2)]
        · rw [if_neg e2, gGet_neg e2]
          rw [gGet_neg e2] at hs
          exact ih hs
    · rw [if_neg e]
      clear hs
      induction kvs with
      | nil => rfl
      | cons p r ih =>
        rw [List.map_cons]
        by_cases e2 : kOf false p.1 = some k
        · rw [if_pos e2]
          have e3 : ¬ kOf false p.1 = some k' := fun z => e (by rw [e2] at z; exact (Option.some.inj z).symm)
          rw [gGet_neg (by exact e3), gGet_neg e3]
          exact ih
        · rw [if_neg e2]
          by_cases e3 : kOf false p.1 = some k'
          · rw [gGet_pos e3, gGet_pos e3]
          · rw [gGet_neg e3, gGet_neg e3]
            exact ih
  · rename_i hs
    induction kvs with
    | nil =>
      rw [List.nil_append]
      by_cases e : k' = k
      · subst e; rw [if_pos rfl, gGet_pos h]
      · rw [if_neg e, gGet_neg (by rw [h]; simpa using fun z => e z.symm)]
    | cons p r ih =>
      rw [List.cons_append]
      by_cases e2 : kOf false p.1 = some k
      · rw [gGet_pos e2] at hs; simp at hs
      · rw [gGet_neg e2] at hs
        by_cases e3 : kOf false p.1 = some k'
        · have e : ¬ k' = k := fun z => e2 (by rw [e3, z])
          rw [if_neg e, gGet_pos e3, gGet_pos e3]
        · rw [gGet_neg e3, gGet_neg e3]
          exact ih hs
theorem gPut_keys {kvs : List (D × D)} {k : List Key} {kd v : D} : (gPut false kvs k kd v).map (·.1) = if (gGet false kvs k).isSome = true then kvs.map (·.1) else kvs.map (·.1) ++ [kd] := by
  unfold gPut
  split
  · rw [List.map_map]
    refine List.map_congr_left fun p _ => ?_
    simp only [Function.comp]
    split <;> rfl
  · rw [List.map_append]; rfl
end
end PL

/-! the defs of kinds that many laws share -/
namespace Std
open PL PySem
def noD : D → Bool
  | .dic _ _ => false | .non => true | .bl _ => true | .int _ => true | .str _ => true | .tup _ => true | .lst _ => true | .scr _ => true | .ktp _ => true
def isW : D → Bool
  | .int _ => true
  | _ => false
def isWin (lo hi : Int) : D → Bool
  | .int i => decide (lo ≤ i) && decide (i ≤ hi)
  | _ => false
def isTup (lo hi : Int) : D → Bool
  | .tup ds => decide (lo ≤ ds.length) && decide (ds.length ≤ hi)
  | .ktp ds => decide (lo ≤ ds.length) && decide (ds.length ≤ hi)
  | _ => false
@[simp] theorem noD_non  : noD .non = true := (rfl)
@[simp] theorem isW_non  : isW .non = false := (rfl)
@[simp] theorem isWin_non (lo hi : Int)  : isWin lo hi .non = false := (rfl)
@[simp] theorem isTup_non (lo hi : Int)  : isTup lo hi .non = false := (rfl)
@[simp] theorem noD_bl (x : Bool) : noD (.bl x) = true := (rfl)
@[simp] theorem isW_bl (x : Bool) : isW (.bl x) = false := (rfl)
@[simp] theorem isWin_bl (lo hi : Int) (x : Bool) : isWin lo hi (.bl x) = false := (rfl)
@[simp] theorem isTup_bl (lo hi : Int) (x : Bool) : isTup lo hi (.bl x) = false := (rfl)
@[simp] theorem noD_int (x : Int) : noD (.int x) = true := (rfl)
@[simp] theorem isW_int (x : Int) : isW (.int x) = true := (rfl)
@[simp] theorem isWin_int (lo hi : Int) (x : Int) : isWin lo hi (.int x) = (decide (lo ≤ x) && decide (x ≤ hi)) := (rfl)
@[simp] theorem isTup_int (lo hi : Int) (x : Int) : isTup lo hi (.int x) = false := (rfl)
@[simp] theorem noD_str (x : Str) : noD (.str x) = true := (rfl)
@[simp] theorem isW_str (x : Str) : isW (.str x) = false := (rfl)
@[simp] theorem isWin_str (lo hi : Int) (x : Str) : isWin lo hi (.str x) = false := (rfl)
@[simp] theorem isTup_str (lo hi : Int) (x : Str) : isTup lo hi (.str x) = false := (rfl)
@[simp] theorem noD_tup (x : List D) : noD (.tup x) = true := (rfl)
@[simp] theorem isW_tup (x : List D) : isW (.tup x) = false := (rfl)
@[simp] theorem isWin_tup (lo hi : Int) (x : List D) : isWin lo hi (.tup x) = false := (rfl)
@[simp] theorem isTup_tup (lo hi : Int) (x : List D) : isTup lo hi (.tup x) = (decide (lo ≤ x.length) && decide (x.length ≤ hi)) := (rfl)
@[simp] theorem noD_lst (x : List D) : noD (.lst x) = true := (rfl)
@[simp] theorem isW_lst (x : List D) : isW (.lst x) = false := (rfl)
@[simp] theorem isWin_lst (lo hi : Int) (x : List D) : isWin lo hi (.lst x) = false := (rfl)
@[simp] theorem isTup_lst (lo hi : Int) (x : List D) : isTup lo hi (.lst x) = false := (rfl)
@[simp] theorem noD_scr (x : List Int) : noD (.scr x) = true := (rfl)
@[simp] theorem isW_scr (x : List Int) : isW (.scr x) = false := (rfl)
@[simp] theorem isWin_scr (lo hi : Int) (x : List Int) : isWin lo hi (.scr x) = false := (rfl)
@[simp] theorem isTup_scr (lo hi : Int) (x : List Int) : isTup lo hi (.scr x) = false := (rfl)
@[simp] theorem noD_ktp (x : List D) : noD (.ktp x) = true := (rfl)
@[simp] theorem isW_ktp (x : List D) : isW (.ktp x) = false := (rfl)
@[simp] theorem isWin_ktp (lo hi : Int) (x : List D) : isWin lo hi (.ktp x) = false := (rfl)
@[simp] theorem isTup_ktp (lo hi : Int) (x : List D) : isTup lo hi (.ktp x) = (decide (lo ≤ x.length) && decide (x.length ≤ hi)) := (rfl)
@[simp] theorem noD_dic (t : Bool) (k : List (D × D)) : noD (.dic t k) = false := (rfl)
def b_is_tuple_of : Sx := sRet [] (eAnd (bE (tIsi (isT .tuple) (eVar 0))) (bE (tCh dLe dLe (eVar 1) (eB dLen1 (aCons (eVar 0) (aNil))) (eVar 2))))
def m_is_tuple_of : Fn := runF 0 b_is_tuple_of
def b_is_whole : Sx := sRet [] (eAnd (bE (tIsi (isT .int) (eVar 0))) (eNot (bE (tIsi (isT .bool) (eVar 0)))))
def m_is_whole : Fn := runF 0 b_is_whole
def b_is_whole_in : Sx := sRet [] (eAnd (eCall [] 1 m_is_whole (aCons (eVar 0) (aNil))) (bE (tCh dLe dLe (eVar 1) (eVar 0) (eVar 2))))
def m_is_whole_in : Fn := runF 0 b_is_whole_in
theorem s_is_whole (d : D) (h : noD d = true) : m_is_whole [d] = .ok (.v (.bl (isW d))) := by
  cases d <;> first | (simp at h; done) | simp [m_is_whole, b_is_whole]
theorem s_is_whole_in (d : D) (lo hi : Int) (h : noD d = true) : m_is_whole_in [d, .int lo, .int hi] = .ok (.v (.bl (isWin lo hi d))) := by
  cases d <;> first | (simp at h; done) | simp [m_is_whole_in, b_is_whole_in, s_is_whole]
  all_goals (split <;> simp_all <;> omega)
theorem s_is_tuple_of (d : D) (lo hi : Int) (h : noD d = true) : m_is_tuple_of [d, .int lo, .int hi] = .ok (.v (.bl (isTup lo hi d))) := by
  cases d <;> first | (simp at h; done) | simp [m_is_tuple_of, b_is_tuple_of]
  all_goals (split <;> simp_all <;> omega)
end Std

namespace Std
open PL PySem
def c_LETTERS : D := .str "abcdefghijklmnopqrstuvwxyz"
def c_DIGITS : D := .str "0123456789"
def b_is_name_f1 : Sx := sIf (tAnd (t2 dNotIn (eVar 1) (eC c_LETTERS)) (t2 dNotIn (eVar 1) (eC c_DIGITS))) (sRet [] (eC (.bl false))) (sNil)
def b_is_name : Sx := sSeq (sIf (tNot (tIsi (isT .str) (eVar 0))) (sRet [] (eC (.bl false))) (sNil)) (sSeq (sIf (tOr (t2 dLt (eB dLen1 (aCons (eVar 0) (aNil))) (eC (.int 1))) (t2 dGt (eB dLen1 (aCons (eVar 0) (aNil))) (eC (.int 8)))) (sRet [] (eC (.bl false))) (sNil)) (sSeq (sIf (t2 dNotIn (e2 dIx (eVar 0) (eC (.int 0))) (eC c_LETTERS)) (sRet [] (eC (.bl false))) (sNil)) (sSeq (sFor (iVal [] (eVar 0)) (gNm [] 1) b_is_name_f1) (sRet [] (eC (.bl true))))))
def m_is_name : Fn := runF 1 b_is_name
def isLet (c : Nat) : Bool := strIn ⟨#[c]⟩ "abcdefghijklmnopqrstuvwxyz"
def isDig (c : Nat) : Bool := strIn ⟨#[c]⟩ "0123456789"
def nameB (z : Str) : Bool := decide (1 ≤ z.length ∧ z.length ≤ 8) && (match z.cps.toList with
  | [] => false
  | c :: _ => isLet c) && z.cps.toList.all fun c => isLet c || isDig c
def isNm : D → Bool
  | .str z => nameB z
  | _ => false
theorem s_is_nameS (z : Str) (hz : z.length ≤ 16777216) : m_is_name [.str z] = .ok (.v (.bl (nameB z))) := by
  obtain ⟨⟨l⟩⟩ := z
  have hlen : (Str.mk ⟨l⟩).length = l.length := rfl
  by_cases h1 : 1 ≤ l.length ∧ l.length ≤ 8
  · cases l with
    | nil => simp at h1
    | cons c l =>
      have g : L2.atI (c :: l) 0 = some c := atI_ofNat (c :: l) 0 c rfl
      obtain ⟨ρ', e1, _⟩ := lp_allM (t := gNm [] 1) (f := b_is_name_f1) (h := fun c : Nat => D.str ⟨#[c]⟩) (fun ρ => ∃ x, ρ = [some (.v (.str ⟨⟨c :: l⟩⟩)), x]) (fun c => isLet c || isDig c) (.bl false) (c :: l) [some (.v (.str ⟨⟨c :: l⟩⟩)), none] ⟨none, rfl⟩ (fun x ρ _ ⟨y, e⟩ => by
        subst e
        refine ⟨_, rfl, [some (.v (.str ⟨⟨c :: l⟩⟩)), some (.v (.str ⟨#[x]⟩))], ?_, _, rfl⟩
        cases ha : isLet x <;> cases hb : isDig x <;> (unfold isLet at ha; unfold isDig at hb; simp [b_is_name_f1, c_LETTERS, c_DIGITS, ha, hb]))
      have l1 : ¬ ((l.length : Int) + 1 < 1) := by omega
      have l2 : ¬ ((8 : Int) < (l.length : Int) + 1) := by simp at h1; omega
      have l3 : l.length + 1 ≤ 16777216 := by simp at h1; omega
      cases hc : isLet c with
      | false =>
        have hn : nameB ⟨⟨c :: l⟩⟩ = false := by simp [nameB, hc]
        rw [hn]
        unfold isLet at hc
        simp [m_is_name, b_is_name, c_LETTERS, c_DIGITS, hlen, l1, l2, l3, g, hc]
      | true =>
        have hn : nameB ⟨⟨c :: l⟩⟩ = ((c :: l).all fun c => isLet c || isDig c) := by
          have h2 : 1 ≤ (Str.mk ⟨c :: l⟩).length ∧ (Str.mk ⟨c :: l⟩).length ≤ 8 := h1
          simp [nameB, hc, h2]
        rw [hn]
        unfold isLet at hc
        simp [m_is_name, b_is_name, c_LETTERS, c_DIGITS, hlen, l1, l2, l3, g, hc]
        simp only [List.map_cons] at e1
        rw [e1]
        show _ = Out.ok (S.v (D.bl ((c :: l).all fun c => isLet c || isDig c)))
        cases ((c :: l).all fun c => isLet c || isDig c) <;> simp
  · have hn : nameB ⟨⟨l⟩⟩ = false := by
      have : ¬ (1 ≤ (Str.mk ⟨l⟩).length ∧ (Str.mk ⟨l⟩).length ≤ 8) := h1
      simp [nameB, this]
    rw [hn]
    have hl : l.length ≤ 16777216 := hz
    by_cases h2 : l.length < 1
    · have : (l.length : Int) < 1 := by omega
      simp [m_is_name, b_is_name, hlen, hl, this]
    · have h3 : ¬ (l.length : Int) < 1 := by omega
      have h4 : (8 : Int) < l.length := by omega
      simp [m_is_name, b_is_name, hlen, hl, h3, h4]
theorem s_is_name0 (d : D) (h : noD d = true) (hd : isT .str d = some false) : m_is_name [d] = .ok (.v (.bl false)) := by
  simp [m_is_name, b_is_name, hd]
theorem joinL_one : ∀ cs : List Nat, TL.joinL [] (cs.map fun c => [c]) = cs
  | [] => rfl
  | [c] => rfl
  | c :: d :: cs => by
    have ih := joinL_one (d :: cs)
    rw [List.map_cons] at ih
    rw [List.map_cons, List.map_cons, TL.joinL, ih]
    rfl
theorem join_one (cs : List Nat) : Txt.join "" (cs.map fun c => (⟨#[c]⟩ : Str)) = ⟨cs.toArray⟩ := by
  have h := SX.join_S [] (cs.map fun c => [c])
  rw [List.map_map, joinL_one] at h
  exact h
/-- the texts of small letters and digits that begin with a letter -/
def letC (c : Nat) : Bool := decide (97 ≤ c ∧ c ≤ 122)
def digC (c : Nat) : Bool := decide (48 ≤ c ∧ c ≤ 57)
theorem isLet_of {c : Nat} (h : letC c = true) : isLet c = true := by
  have h : 97 ≤ c ∧ c ≤ 122 := by simpa [letC] using h
  have key : ∀ k, k < 26 → isLet (97 + k) = true := by decide +kernel
  have := key (c - 97) (by omega)
  rwa [show 97 + (c - 97) = c by omega] at this
theorem isDig_of {c : Nat} (h : digC c = true) : isDig c = true := by
  have h : 48 ≤ c ∧ c ≤ 57 := by simpa [digC] using h
  have key : ∀ k, k < 10 → isDig (48 + k) = true := by decide +kernel
  have := key (c - 48) (by omega)
  rwa [show 48 + (c - 48) = c by omega] at this
def Nam (z : Str) : Prop := ∃ c cs, z = ⟨(c :: cs).toArray⟩ ∧ letC c = true ∧ cs.length ≤ 7 ∧ ∀ d ∈ cs, letC d = true ∨ digC d = true
theorem Nam.nameB {z : Str} (h : Nam z) : nameB z = true := by
  obtain ⟨c, cs, rfl, h1, h2, h3⟩ := h
  have hl : 1 ≤ (Str.mk (c :: cs).toArray).length ∧ (Str.mk (c :: cs).toArray).length ≤ 8 := by
    show 1 ≤ (c :: cs).length ∧ (c :: cs).length ≤ 8
    rw [List.length_cons]; omega
  unfold Std.nameB
  simp only [hl, isLet_of h1, decide_true, Bool.true_and, and_self, List.all_eq_true, Bool.or_eq_true]
  intro d hd
  rcases List.mem_cons.mp hd with e | hd
  · subst e; exact .inl (isLet_of h1)
  · rcases h3 d hd with h | h
    · exact .inl (isLet_of h)
    · exact .inr (isDig_of h)
theorem Nam.len {z : Str} (h : Nam z) : z.length ≤ 8 := by
  obtain ⟨c, cs, rfl, h1, h2, h3⟩ := h
  show (c :: cs).length ≤ 8
  rw [List.length_cons]; omega
theorem Nam.is {z : Str} (h : Nam z) : m_is_name [.str z] = .ok (.v (.bl true)) := by
  rw [s_is_nameS z (by have := h.len; omega), h.nameB]
end Std

/-! rules for loops and comprehensions where they stand in a goal -/
namespace PL
open PySem PySem.Spec PyProof.Rows L2
section
variable {α β : Type}
@[simp] theorem bnd_assoc {γ δ : Type} (k2 : γ → Out δ) (w2 : Wit k2) (k : β → Out γ) (w : Wit k) (r : Out β) : bnd k2 w2 (bnd k w r) = bnd (fun a => bnd k2 () (k a)) () r := by
  cases r <;> rfl
theorem bnd_ite {γ : Type} (k : β → Out γ) (w : Wit k) (c : Prop) [Decidable c] (a b : Out β) : bnd k w (if c then a else b) = if c then bnd k w a else bnd k w b := by
  split <;> rfl
/-- what a turn of a loop ends in: on with J, or out to k -/
def Aft (J : Rho → Prop) (k : Fl → Out α) (P : Out α → Prop) : Out Fl → Prop
  | .ok (.next ρ) => J ρ
  | .ok (.cnt ρ) => J ρ
  | .ok (.brk ρ) => P (k (.next ρ))
  | .ok (.ret s ρ) => P (k (.ret s ρ))
  | .exc c ρ => P (.exc c ρ)
  | .stuck => False
section
variable {J : Rho → Prop} {k : Fl → Out α} {P : Out α → Prop} {ρ : Rho}
@[simp] theorem aft_next : Aft J k P (.ok (.next ρ)) = J ρ := (rfl)
@[simp] theorem aft_cnt : Aft J k P (.ok (.cnt ρ)) = J ρ := (rfl)
@[simp] theorem aft_brk : Aft J k P (.ok (.brk ρ)) = P (k (.next ρ)) := (rfl)
@[simp] theorem aft_ret (s : S) : Aft J k P (.ok (.ret s ρ)) = P (k (.ret s ρ)) := (rfl)
@[simp] theorem aft_exc (c : Str) : Aft J k P (.exc c ρ) = P (.exc c ρ) := (rfl)
@[simp] theorem aft_stuck : Aft J k P .stuck = False := (rfl)
@[simp] theorem aft_ite (c : Prop) [Decidable c] (a b : Out Fl) : Aft J k P (if c then a else b) = if c then Aft J k P a else Aft J k P b := by
  split <;> rfl
end
@[simp] theorem aft_lp {J : Rho → Prop} {k : Fl → Out α} {P : Out α → Prop} (t : Gx) (f : Sx) (ds : List D) (ρ : Rho) : Aft J k P (lp t f ds ρ) = Aft J k P (bnd (fun a => .ok a) () (lp t f ds ρ)) := by
  cases lp t f ds ρ <;> rfl
@[simp] theorem isX_lp (t : Gx) (f : Sx) (ds : List D) (ρ : Rho) (c : Str) : isX (lp t f ds ρ) c = isX (bnd (fun a => .ok a) () (lp t f ds ρ)) c := by
  cases lp t f ds ρ <;> rfl
def Turn (t : Gx) (f : Sx) (d : D) (ρ : Rho) (J : Rho → Prop) (k : Fl → Out α) (P : Out α → Prop) : Prop := Aft J k P (bnd f () (liftO (t d ρ)))
@[simp] theorem x_turn (t : Gx) (f : Sx) (d : D) (ρ : Rho) (J : Rho → Prop) (k : Fl → Out α) (P : Out α → Prop) : Turn t f d ρ J k P = Aft J k P (bnd f () (liftO (t d ρ))) := (rfl)
theorem lp_P {t : Gx} {f : Sx} {h : β → D} {k : Fl → Out α} {w : Wit k} {P : Out α → Prop} {ds : List D} {ρ : Rho} (xs : List β) (J : Nat → Rho → Prop) (hd : ds = xs.map h) (h0 : J 0 ρ)
    (hs : ∀ i x ρ, xs[i]? = some x → J i ρ → Turn t f (h x) ρ (J (i + 1)) k P) (he : ∀ ρ, J xs.length ρ → P (k (.next ρ))) : P (bnd k w (lp t f ds ρ)) := by
  subst hd
  have aux : ∀ (ys : List β) (n : Nat) (ρ : Rho), xs.drop n = ys → n + ys.length = xs.length → J n ρ → P (bnd k w (lp t f (ys.map h) ρ)) := fun ys => by
    induction ys with
    | nil => intro n ρ _ hl hj; exact he ρ (by rw [← hl]; exact hj)
    | cons y ys ih =>
      intro n ρ e hl hj
      have hy : xs[n]? = some y := by
        have := congrArg (fun l => l[0]?) e
        simpa using this
      have s := hs n y ρ hy hj
      have e' : xs.drop (n + 1) = ys := by rw [← List.drop_drop, e]; rfl
      have ih' := fun ρ' => ih (n + 1) ρ' e' (by rw [List.length_cons] at hl; omega)
      rw [List.map_cons, x_lp1]
      unfold Turn at s
      have e0 : (liftO (t (h y) ρ) >>= fun ρ1 => f ρ1 >>= aft (lp t f (ys.map h))) = (bnd f () (liftO (t (h y) ρ)) >>= aft (lp t f (ys.map h))) := by
        cases liftO (t (h y) ρ) <;> rfl
      rw [e0]
      revert s
      generalize bnd f () (liftO (t (h y) ρ)) = r
      intro s
      cases r with
      | stuck => exact s.elim
      | exc c ρ' => exact s
      | ok fl =>
        cases fl with
        | next ρ' => exact ih' ρ' s
        | cnt ρ' => exact ih' ρ' s
        | brk ρ' => exact s
        | ret z ρ' => exact s
  exact aux xs 0 ρ rfl (by omega) h0
theorem lp_eq {t : Gx} {f : Sx} {h : β → D} {k : Fl → Out α} {w : Wit k} {o : Out α} {ds : List D} {ρ : Rho} (xs : List β) (J : Nat → Rho → Prop) (hd : ds = xs.map h) (h0 : J 0 ρ)
    (hs : ∀ i x ρ, xs[i]? = some x → J i ρ → Turn t f (h x) ρ (J (i + 1)) k (· = o)) (he : ∀ ρ, J xs.length ρ → k (.next ρ) = o) : bnd k w (lp t f ds ρ) = o := lp_P (P := (· = o)) xs J hd h0 hs he
theorem lp_x {t : Gx} {f : Sx} {h : β → D} {k : Fl → Out α} {w : Wit k} {c : Str} {ds : List D} {ρ : Rho} (xs : List β) (J : Nat → Rho → Prop) (hd : ds = xs.map h) (h0 : J 0 ρ)
    (hs : ∀ i x ρ, xs[i]? = some x → J i ρ → Turn t f (h x) ρ (J (i + 1)) k (isX · c)) (he : ∀ ρ, J xs.length ρ → isX (k (.next ρ)) c) : isX (bnd k w (lp t f ds ρ)) c := lp_P (P := (isX · c)) xs J hd h0 hs he
/-- over a range -/
theorem rg_P {t : Gx} {f : Sx} {k : Fl → Out α} {w : Wit k} {P : Out α → Prop} {lo : Int} {n : Nat} {ρ : Rho} (J : Nat → Rho → Prop) (h0 : J 0 ρ)
    (hs : ∀ i ρ, i < n → J i ρ → Turn t f (.int (lo + (i : Nat))) ρ (J (i + 1)) k P) (he : ∀ ρ, J n ρ → P (k (.next ρ))) : P (bnd k w (lp t f (rgD lo n) ρ)) := by
  refine lp_P (h := fun i : Nat => D.int (lo + (i : Nat))) (List.range n) J rfl h0 (fun i x ρ hx hj => ?_) (by rw [List.length_range]; exact he)
  obtain ⟨hi, e⟩ := List.getElem?_eq_some_iff.mp hx
  rw [List.getElem_range] at e
  subst e
  exact hs i ρ (by simpa using hi) hj
theorem rg_eq {t : Gx} {f : Sx} {k : Fl → Out α} {w : Wit k} {o : Out α} {lo : Int} {n : Nat} {ρ : Rho} (J : Nat → Rho → Prop) (h0 : J 0 ρ)
    (hs : ∀ i ρ, i < n → J i ρ → Turn t f (.int (lo + (i : Nat))) ρ (J (i + 1)) k (· = o)) (he : ∀ ρ, J n ρ → k (.next ρ) = o) : bnd k w (lp t f (rgD lo n) ρ) = o := rg_P (P := (· = o)) J h0 hs he
theorem rg_x {t : Gx} {f : Sx} {k : Fl → Out α} {w : Wit k} {c : Str} {lo : Int} {n : Nat} {ρ : Rho} (J : Nat → Rho → Prop) (h0 : J 0 ρ)
    (hs : ∀ i ρ, i < n → J i ρ → Turn t f (.int (lo + (i : Nat))) ρ (J (i + 1)) k (isX · c)) (he : ∀ ρ, J n ρ → isX (k (.next ρ)) c) : isX (bnd k w (lp t f (rgD lo n) ρ)) c := rg_P (P := (isX · c)) J h0 hs he
/-- over enumerate -/
theorem en_P {t : Gx} {f : Sx} {h : β → D} {k : Fl → Out α} {w : Wit k} {P : Out α → Prop} {ds : List D} {ρ : Rho} (xs : List β) (J : Nat → Rho → Prop) (hd : ds = xs.map h) (h0 : J 0 ρ)
    (hs : ∀ i x ρ, xs[i]? = some x → J i ρ → Turn t f (.tup [.int (i : Nat), h x]) ρ (J (i + 1)) k P) (he : ∀ ρ, J xs.length ρ → P (k (.next ρ))) : P (bnd k w (lp t f (enD 0 ds) ρ)) := by
  subst hd
  rw [en_zip]
  refine lp_P (h := fun p : β × Nat => D.tup [.int ((p.2 : Nat) : Int), h p.1]) xs.zipIdx J rfl h0 (fun i x ρ hx hj => ?_) (by rw [List.length_zipIdx]; exact he)
  rw [List.getElem?_zipIdx] at hx
  cases e : xs[i]? with
  | none => rw [e] at hx; cases hx
  | some y =>
    rw [e] at hx
    cases hx
    rw [Nat.zero_add]
    exact hs i y ρ e hj
theorem en_eq {t : Gx} {f : Sx} {h : β → D} {k : Fl → Out α} {w : Wit k} {o : Out α} {ds : List D} {ρ : Rho} (xs : List β) (J : Nat → Rho → Prop) (hd : ds = xs.map h) (h0 : J 0 ρ)
    (hs : ∀ i x ρ, xs[i]? = some x → J i ρ → Turn t f (.tup [.int (i : Nat), h x]) ρ (J (i + 1)) k (· = o)) (he : ∀ ρ, J xs.length ρ → k (.next ρ) = o) : bnd k w (lp t f (enD 0 ds) ρ) = o := en_P (P := (· = o)) xs J hd h0 hs he
/-- good items, then one that makes an end -/
theorem lp_bad {t : Gx} {f : Sx} {h : β → D} {k : Fl → Out α} {w : Wit k} {P : Out α → Prop} {ρ : Rho} (good : List β) (d : D) (rest : List D) (I : Rho → Prop) (h0 : I ρ)
    (hg : ∀ x ρ, x ∈ good → I ρ → Turn t f (h x) ρ I k P) (hb : ∀ ρ, I ρ → Turn t f d ρ (fun _ => False) k P) : P (bnd k w (lp t f (good.map h ++ d :: rest) ρ)) := by
  refine lp_P (h := id) (good.map h ++ d :: rest) (fun i ρ => i ≤ good.length ∧ I ρ) (by simp) ⟨Nat.zero_le _, h0⟩ (fun i x ρ hx ⟨hi, hI⟩ => ?_) (fun ρ ⟨hl, _⟩ => ?_)
  · by_cases hlt : i < good.length
    · rw [List.getElem?_append_left (by simpa using hlt), List.getElem?_map, List.getElem?_eq_getElem hlt] at hx
      cases hx
      have s := hg good[i] ρ (List.getElem_mem hlt) hI
      unfold Turn at s ⊢
      revert s
      show Aft I k P (bnd f () (liftO (t (h good[i]) ρ))) → Aft _ k P (bnd f () (liftO (t (h good[i]) ρ)))
      generalize bnd f () (liftO (t (h good[i]) ρ)) = r
      intro s
      cases r with
      | stuck => exact s
      | exc c ρ' => exact s
      | ok fl => cases fl <;> first | exact ⟨hlt, s⟩ | exact s
    · have e : i = good.length := by omega
      subst e
      rw [List.getElem?_append_right (by simp)] at hx
      simp at hx
      subst hx
      have s := hb ρ hI
      unfold Turn at s ⊢
      revert s
      show Aft _ k P (bnd f () (liftO (t d ρ))) → Aft _ k P (bnd f () (liftO (t d ρ)))
      generalize bnd f () (liftO (t d ρ)) = r
      intro s
      cases r with
      | stuck => exact s
      | exc c ρ' => exact s
      | ok fl => cases fl <;> first | exact s.elim | exact s
  · rw [List.length_append, List.length_map, List.length_cons] at hl
    omega
theorem lp_badx {t : Gx} {f : Sx} {h : β → D} {k : Fl → Out α} {w : Wit k} {c : Str} {ρ : Rho} (good : List β) (d : D) (rest : List D) (I : Rho → Prop) (h0 : I ρ)
    (hg : ∀ x ρ, x ∈ good → I ρ → Turn t f (h x) ρ I k (isX · c)) (hb : ∀ ρ, I ρ → Turn t f d ρ (fun _ => False) k (isX · c)) : isX (bnd k w (lp t f (good.map h ++ d :: rest) ρ)) c := lp_bad (P := (isX · c)) good d rest I h0 hg hb
theorem lp_bade {t : Gx} {f : Sx} {h : β → D} {k : Fl → Out α} {w : Wit k} {o : Out α} {ρ : Rho} (good : List β) (d : D) (rest : List D) (I : Rho → Prop) (h0 : I ρ)
    (hg : ∀ x ρ, x ∈ good → I ρ → Turn t f (h x) ρ I k (· = o)) (hb : ∀ ρ, I ρ → Turn t f d ρ (fun _ => False) k (· = o)) : bnd k w (lp t f (good.map h ++ d :: rest) ρ) = o := lp_bad (P := (· = o)) good d rest I h0 hg hb
/-! comprehensions -/
def LV (vs : List Nat) (ρ0 : Rho) (g : D) : Out (D × Rho) → Prop
  | .ok (v, ρ3) => v = g ∧ wipeE ρ3 vs = ρ0
  | _ => False
def LT (l vs : List Nat) (fe : Ex) (ρ0 : Rho) (c : Bool) (g : D) : Out (Bool × Rho) → Prop
  | .ok (b, ρ2) => b = c ∧ (if b = true then LV vs ρ0 g (eF l fe ρ2) else wipeE ρ2 vs = ρ0)
  | _ => False
def LTurn (l vs : List Nat) (ft : Gx) (tt : Tx) (fe : Ex) (d : D) (ρ : Rho) (c : Bool) (g : D) : Prop := LT l vs fe ρ c g (bnd tt () (liftO (ft d ρ)))
section
variable {l vs : List Nat} {fe : Ex} {ρ0 ρ : Rho} {c b : Bool} {g v : D}
@[simp] theorem x_LV : LV vs ρ0 g (.ok (v, ρ)) = (v = g ∧ wipeE ρ vs = ρ0) := (rfl)
@[simp] theorem x_LT : LT l vs fe ρ0 c g (.ok (b, ρ)) = (b = c ∧ (if b = true then LV vs ρ0 g (eF l fe ρ) else wipeE ρ vs = ρ0)) := (rfl)
@[simp] theorem x_LTurn (ft : Gx) (tt : Tx) (d : D) : LTurn l vs ft tt fe d ρ c g = LT l vs fe ρ c g (bnd tt () (liftO (ft d ρ))) := (rfl)
end
theorem lc_go {l vs : List Nat} {ft : Gx} {tt : Tx} {fe : Ex} {h : β → D} {ρ : Rho} (c : β → Bool) (g : β → D) : ∀ (xs : List β) (acc : List D), acc.length + xs.length ≤ 16777216 → (∀ x, x ∈ xs → LTurn l vs ft tt fe (h x) ρ (c x) (g x)) →
    lcLp l vs ft tt fe (xs.map h) ρ acc = .ok (acc ++ (xs.filter c).map g, ρ) := fun xs acc hl hs => by
  refine lc_eqM c g xs acc hl fun x hx => ?_
  have s := hs x hx
  unfold LTurn at s
  cases e1 : ft (h x) ρ with
  | none => rw [e1] at s; exact s.elim
  | some ρ1 =>
    rw [e1] at s
    have s : LT l vs fe ρ (c x) (g x) (tt ρ1) := s
    cases e2 : tt ρ1 with
    | stuck => rw [e2] at s; exact s.elim
    | exc c' ρ' => rw [e2] at s; exact s.elim
    | ok p =>
      obtain ⟨b, ρ2⟩ := p
      rw [e2] at s
      obtain ⟨hb, s⟩ := s
      subst hb
      refine ⟨ρ1, ρ2, rfl, e2, fun hc => ?_, fun hc => ?_⟩
      · rw [if_pos hc] at s
        cases e3 : eF l fe ρ2 with
        | stuck => rw [e3] at s; exact s.elim
        | exc c' ρ' => rw [e3] at s; exact s.elim
        | ok p =>
          obtain ⟨v, ρ3⟩ := p
          rw [e3] at s
          obtain ⟨s1, s2⟩ := s
          subst s1
          exact ⟨ρ3, rfl, s2⟩
      · rw [hc] at s
        exact s
theorem lc_P {l vs : List Nat} {ft : Gx} {tt : Tx} {fe : Ex} {h : β → D} {k : List D × Rho → Out α} {w : Wit k} {P : Out α → Prop} {ds : List D} {ρ : Rho} (xs : List β) (c : β → Bool) (g : β → D) (hd : ds = xs.map h) (hl : xs.length ≤ 16777216)
    (hs : ∀ x, x ∈ xs → LTurn l vs ft tt fe (h x) ρ (c x) (g x)) (he : P (k ((xs.filter c).map g, ρ))) : P (bnd k w (nox (lcLp l vs ft tt fe ds ρ []))) := by
  subst hd
  rw [lc_go c g xs [] (by simpa using hl) hs]
  exact he
theorem lc_b {l vs : List Nat} {ft : Gx} {tt : Tx} {fe : Ex} {h : β → D} {k : List D × Rho → Out α} {w : Wit k} {o : Out α} {ds : List D} {ρ : Rho} (xs : List β) (c : β → Bool) (g : β → D) (hd : ds = xs.map h) (hl : xs.length ≤ 16777216)
    (hs : ∀ x, x ∈ xs → LTurn l vs ft tt fe (h x) ρ (c x) (g x)) (he : k ((xs.filter c).map g, ρ) = o) : bnd k w (nox (lcLp l vs ft tt fe ds ρ [])) = o := lc_P (P := (· = o)) xs c g hd hl hs he
theorem lm_P {l vs : List Nat} {ft : Gx} {fe : Ex} {h : β → D} {k : List D × Rho → Out α} {w : Wit k} {P : Out α → Prop} {ds : List D} {ρ : Rho} (xs : List β) (g : β → D) (hd : ds = xs.map h) (hl : xs.length ≤ 16777216)
    (hs : ∀ x, x ∈ xs → LTurn l vs ft tsNo fe (h x) ρ true (g x)) (he : P (k (xs.map g, ρ))) : P (bnd k w (nox (lcLp l vs ft tsNo fe ds ρ []))) := by
  refine lc_P xs (fun _ => true) g hd hl hs ?_
  rw [List.filter_eq_self.mpr (fun _ _ => rfl)]
  exact he
theorem lm_b {l vs : List Nat} {ft : Gx} {fe : Ex} {h : β → D} {k : List D × Rho → Out α} {w : Wit k} {o : Out α} {ds : List D} {ρ : Rho} (xs : List β) (g : β → D) (hd : ds = xs.map h) (hl : xs.length ≤ 16777216)
    (hs : ∀ x, x ∈ xs → LTurn l vs ft tsNo fe (h x) ρ true (g x)) (he : k (xs.map g, ρ) = o) : bnd k w (nox (lcLp l vs ft tsNo fe ds ρ [])) = o := lm_P (P := (· = o)) xs g hd hl hs he
/-! within a turn of another loop -/
section
variable {J' : Rho → Prop} {k' : Fl → Out α} {P' : Out α → Prop}
theorem lp_a {t : Gx} {f : Sx} {h : β → D} {k : Fl → Out Fl} {w : Wit k} {ds : List D} {ρ : Rho} (xs : List β) (J : Nat → Rho → Prop) (hd : ds = xs.map h) (h0 : J 0 ρ)
    (hs : ∀ i x ρ, xs[i]? = some x → J i ρ → Turn t f (h x) ρ (J (i + 1)) k (Aft J' k' P')) (he : ∀ ρ, J xs.length ρ → Aft J' k' P' (k (.next ρ))) : Aft J' k' P' (bnd k w (lp t f ds ρ)) := lp_P (P := Aft J' k' P') xs J hd h0 hs he
theorem rg_a {t : Gx} {f : Sx} {k : Fl → Out Fl} {w : Wit k} {lo : Int} {n : Nat} {ρ : Rho} (J : Nat → Rho → Prop) (h0 : J 0 ρ)
    (hs : ∀ i ρ, i < n → J i ρ → Turn t f (.int (lo + (i : Nat))) ρ (J (i + 1)) k (Aft J' k' P')) (he : ∀ ρ, J n ρ → Aft J' k' P' (k (.next ρ))) : Aft J' k' P' (bnd k w (lp t f (rgD lo n) ρ)) := rg_P (P := Aft J' k' P') J h0 hs he
theorem en_a {t : Gx} {f : Sx} {h : β → D} {k : Fl → Out Fl} {w : Wit k} {ds : List D} {ρ : Rho} (xs : List β) (J : Nat → Rho → Prop) (hd : ds = xs.map h) (h0 : J 0 ρ)
    (hs : ∀ i x ρ, xs[i]? = some x → J i ρ → Turn t f (.tup [.int (i : Nat), h x]) ρ (J (i + 1)) k (Aft J' k' P')) (he : ∀ ρ, J xs.length ρ → Aft J' k' P' (k (.next ρ))) : Aft J' k' P' (bnd k w (lp t f (enD 0 ds) ρ)) := en_P (P := Aft J' k' P') xs J hd h0 hs he
theorem lc_a {l vs : List Nat} {ft : Gx} {tt : Tx} {fe : Ex} {h : β → D} {k : List D × Rho → Out Fl} {w : Wit k} {ds : List D} {ρ : Rho} (xs : List β) (c : β → Bool) (g : β → D) (hd : ds = xs.map h) (hl : xs.length ≤ 16777216)
    (hs : ∀ x, x ∈ xs → LTurn l vs ft tt fe (h x) ρ (c x) (g x)) (he : Aft J' k' P' (k ((xs.filter c).map g, ρ))) : Aft J' k' P' (bnd k w (nox (lcLp l vs ft tt fe ds ρ []))) := lc_P (P := Aft J' k' P') xs c g hd hl hs he
theorem lm_a {l vs : List Nat} {ft : Gx} {fe : Ex} {h : β → D} {k : List D × Rho → Out Fl} {w : Wit k} {ds : List D} {ρ : Rho} (xs : List β) (g : β → D) (hd : ds = xs.map h) (hl : xs.length ≤ 16777216)
    (hs : ∀ x, x ∈ xs → LTurn l vs ft tsNo fe (h x) ρ true (g x)) (he : Aft J' k' P' (k (xs.map g, ρ))) : Aft J' k' P' (bnd k w (nox (lcLp l vs ft tsNo fe ds ρ []))) := lm_P (P := Aft J' k' P') xs g hd hl hs he
end
/-- the reckoning ends well, in what has Q -/
def Ev (r : Out α) (Q : α → Prop) : Prop := ∃ a, r = .ok a ∧ Q a
@[simp] theorem x_ev (a : α) (Q : α → Prop) : Ev (.ok a) Q = Q a := by
  refine propext ⟨fun ⟨b, e, q⟩ => ?_, fun q => ⟨a, rfl, q⟩⟩
  cases e; exact q
@[simp] theorem ev_lp {Q : Fl → Prop} (t : Gx) (f : Sx) (ds : List D) (ρ : Rho) : Ev (lp t f ds ρ) Q = Ev (bnd (fun a => .ok a) () (lp t f ds ρ)) Q := by
  cases lp t f ds ρ <;> rfl
/-! .. in a goal Ev -/
section
variable {γ : Type} {Q : α → Prop}
theorem lp_v {t : Gx} {f : Sx} {h : β → D} {k : Fl → Out α} {w : Wit k} {ds : List D} {ρ : Rho} (xs : List β) (J : Nat → Rho → Prop) (hd : ds = xs.map h) (h0 : J 0 ρ)
    (hs : ∀ i x ρ, xs[i]? = some x → J i ρ → Turn t f (h x) ρ (J (i + 1)) k (Ev · Q)) (he : ∀ ρ, J xs.length ρ → Ev (k (.next ρ)) Q) : Ev (bnd k w (lp t f ds ρ)) Q := lp_P (P := (Ev · Q)) xs J hd h0 hs he
theorem rg_v {t : Gx} {f : Sx} {k : Fl → Out α} {w : Wit k} {lo : Int} {n : Nat} {ρ : Rho} (J : Nat → Rho → Prop) (h0 : J 0 ρ)
    (hs : ∀ i ρ, i < n → J i ρ → Turn t f (.int (lo + (i : Nat))) ρ (J (i + 1)) k (Ev · Q)) (he : ∀ ρ, J n ρ → Ev (k (.next ρ)) Q) : Ev (bnd k w (lp t f (rgD lo n) ρ)) Q := rg_P (P := (Ev · Q)) J h0 hs he
theorem en_v {t : Gx} {f : Sx} {h : β → D} {k : Fl → Out α} {w : Wit k} {ds : List D} {ρ : Rho} (xs : List β) (J : Nat → Rho → Prop) (hd : ds = xs.map h) (h0 : J 0 ρ)
    (hs : ∀ i x ρ, xs[i]? = some x → J i ρ → Turn t f (.tup [.int (i : Nat), h x]) ρ (J (i + 1)) k (Ev · Q)) (he : ∀ ρ, J xs.length ρ → Ev (k (.next ρ)) Q) : Ev (bnd k w (lp t f (enD 0 ds) ρ)) Q := en_P (P := (Ev · Q)) xs J hd h0 hs he
theorem lc_v {l vs : List Nat} {ft : Gx} {tt : Tx} {fe : Ex} {h : β → D} {k : List D × Rho → Out α} {w : Wit k} {ds : List D} {ρ : Rho} (xs : List β) (c : β → Bool) (g : β → D) (hd : ds = xs.map h) (hl : xs.length ≤ 16777216)
    (hs : ∀ x, x ∈ xs → LTurn l vs ft tt fe (h x) ρ (c x) (g x)) (he : Ev (k ((xs.filter c).map g, ρ)) Q) : Ev (bnd k w (nox (lcLp l vs ft tt fe ds ρ []))) Q := lc_P (P := (Ev · Q)) xs c g hd hl hs he
theorem lm_v {l vs : List Nat} {ft : Gx} {fe : Ex} {h : β → D} {k : List D × Rho → Out α} {w : Wit k} {ds : List D} {ρ : Rho} (xs : List β) (g : β → D) (hd : ds = xs.map h) (hl : xs.length ≤ 16777216)
    (hs : ∀ x, x ∈ xs → LTurn l vs ft tsNo fe (h x) ρ true (g x)) (he : Ev (k (xs.map g, ρ)) Q) : Ev (bnd k w (nox (lcLp l vs ft tsNo fe ds ρ []))) Q := lm_P (P := (Ev · Q)) xs g hd hl hs he
end
end
end PL

/-! in-out calls, and more equations -/
namespace PL
open PySem PySem.Spec PyProof.Rows L2
section
variable {ρ : Rho} {l : List Nat}
@[simp] theorem x_fzX0 (i : Nat) (ss : List S) : fzX l 0 (.b i :: ss) ρ = (fzL l ss ρ >>= fun q => .ok (.non :: q.1, i, q.2)) := (rfl)
@[simp] theorem x_fzXs (j : Nat) (s : S) (ss : List S) : fzX l (j + 1) (s :: ss) ρ = (fz l s ρ >>= fun p => fzX l j ss p.2 >>= fun q => .ok (p.1 :: q.1, q.2.1, q.2.2)) := fzX_s l j s ss ρ
@[simp] theorem x_call1 (n j0 : Nat) (F : Fn1) (fa : Ax) : eCall1 l n j0 F fa ρ = (fa ρ >>= fun p => fzX l j0 p.1 p.2 >>= fun q => liftO (ownD q.2.2 q.2.1) >>= fun d => if q.1.length = n then F (q.1.set j0 d) >>= fun r => .ok (r.1, putO q.2.2 q.2.1 r.2) else .stuck) := (rfl)
@[simp] theorem x_noX1 (r : S × D) : noX (.ok r) = .ok r := (rfl)
@[simp] theorem x_run1 (j0 m : Nat) (f : Sx) (ds : List D) : run1 j0 m f ds = (f (rho1 j0 ds ++ List.replicate m none) >>= end1 j0) := (rfl)
@[simp] theorem x_rho1a (ds : List D) (d : D) : rho1 0 (d :: ds) = some (.o d) :: ds.map fun d => some (.v d) := (rfl)
@[simp] theorem x_rho1b (j : Nat) (ds : List D) (d : D) : rho1 (j + 1) (d :: ds) = some (.v d) :: rho1 j ds := (rfl)
@[simp] theorem x_end1r (j0 : Nat) (s : S) (ρ' : Rho) : end1 j0 (.ret s ρ') = (liftO (ownD ρ' j0) >>= fun d => .ok (s, d)) := (rfl)
@[simp] theorem x_end1n (j0 : Nat) (ρ' : Rho) : end1 j0 (.next ρ') = (liftO (ownD ρ' j0) >>= fun d => .ok (.v .non, d)) := (rfl)
@[simp] theorem x_setL (ls : List D) (i : Int) (v : D) : dSet (.lst ls) (.int i) v = (ixN ls.length i).map fun j => .lst (ls.set j v) := (rfl)
@[simp] theorem x_isubI (i j : Int) : iSub (.int i) (.int j) = some (.v (.int (i - j))) := (rfl)
@[simp] theorem x_iaddI (i j : Int) : iAdd (.int i) (.int j) = some (.v (.int (i + j))) := (rfl)
@[simp] theorem x_ixSc (ns : List Int) (i : Int) : dIx (.scr ns) (.int i) = (L2.atI ns i).map fun n => .v (.int n) := (rfl)
@[simp] theorem x_slZ (z : Str) (lo hi : Option Int) : dSl (.str z) lo hi = if z.length ≤ 16777216 then some (.v (.str (cutS z lo hi))) else none := (rfl)
@[simp] theorem x_lstS (ns : List Int) : dLst1 [.scr ns] = some (.o (.lst (ns.map .int))) := (rfl)
@[simp] theorem x_addL (a b : List D) : dAdd (.lst a) (.lst b) = if a.length + b.length ≤ 16777216 then some (.o (.lst (a ++ b))) else none := (rfl)
@[simp] theorem x_addZ (a b : Str) : dAdd (.str a) (.str b) = if a.length + b.length ≤ 16777216 then some (.v (.str (a ++ b))) else none := (rfl)
@[simp] theorem x_pop (ls : List D) (d : D) : mPop (ls ++ [d]) [] = some (d, ls) := by
  unfold mPop
  simp
end
theorem x_eq_bl (i j : Bool) : eqD (.bl i) (.bl j) = decide (i = j) := by
  cases i <;> cases j <;> rfl
@[simp] theorem x_dEq_bl (i j : Bool) : dEq (.bl i) (.bl j) = some (decide (i = j)) := by
  unfold dEq
  rw [if_pos (show flatX (.bl i) (.bl j) = true from rfl), x_eq_bl]
@[simp] theorem x_ltZ (i j : Str) : dLt (.str i) (.str j) = some (decide (i.cps.toList < j.cps.toList)) := (rfl)
@[simp] theorem x_leZ (i j : Str) : dLe (.str i) (.str j) = some (!decide (j.cps.toList < i.cps.toList)) := (rfl)
@[simp] theorem x_gtZ (i j : Str) : dGt (.str i) (.str j) = some (decide (j.cps.toList < i.cps.toList)) := (rfl)
@[simp] theorem x_geZ (i j : Str) : dGe (.str i) (.str j) = some (!decide (i.cps.toList < j.cps.toList)) := (rfl)
/-- bounds that omega shows: simp (disch := omega) [ite_line, ite_line1] -/
theorem ite_line {α : Type} {n : Nat} {a b : α} (h : n ≤ 16777216) : (if n ≤ 16777216 then a else b) = a := if_pos h
theorem ite_line1 {α : Type} {n : Nat} {a b : α} (h : n < 16777216) : (if n < 16777216 then a else b) = a := if_pos h
theorem int1_line {i : Int} (h : -4611686018427387904 ≤ i ∧ i < 4611686018427387904) : PL.int1 [.int i] = some i := x_int1' i h
/-! the digits of places: ixN at small numbers -/
theorem ixN_nat {n k : Nat} (h : k < n) : ixN n (k : Int) = some k := by
  unfold ixN
  rw [if_pos (by omega), if_pos (by omega)]
  rfl
theorem ixN_i {n : Nat} {i : Int} (h0 : 0 ≤ i) (h : i < n) : ixN n i = some i.toNat := by
  have e : ((i.toNat : Nat) : Int) = i := by omega
  have := ixN_nat (n := n) (k := i.toNat) (by omega)
  rwa [e] at this
theorem atI_i {α : Type} {xs : List α} {i : Int} (h0 : 0 ≤ i) (h : i.toNat < xs.length) : L2.atI xs i = some xs[i.toNat] := by
  rw [atI_pos h0, List.getElem?_eq_getElem h]
@[simp] theorem atI_0 {α : Type} (x : α) (xs : List α) : L2.atI (x :: xs) 0 = some x := atI_ofNat _ 0 _ rfl
@[simp] theorem atI_1 {α : Type} (x y : α) (xs : List α) : L2.atI (x :: y :: xs) 1 = some y := atI_ofNat _ 1 _ rfl
@[simp] theorem atI_2 {α : Type} (x y z : α) (xs : List α) : L2.atI (x :: y :: z :: xs) 2 = some z := atI_ofNat _ 2 _ rfl
@[simp] theorem atI_3 {α : Type} (x y z u : α) (xs : List α) : L2.atI (x :: y :: z :: u :: xs) 3 = some u := atI_ofNat _ 3 _ rfl
@[simp] theorem atI_4 {α : Type} (x y z u v : α) (xs : List α) : L2.atI (x :: y :: z :: u :: v :: xs) 4 = some v := atI_ofNat _ 4 _ rfl
theorem atI_map' {α β : Type} (f : α → β) {xs : List α} {i : Int} {x : α} (h : L2.atI xs i = some x) : L2.atI (xs.map f) i = some (f x) := by
  rw [atI_map, h]; rfl
/-- an index within the bounds finds something -/
theorem atI_ex {α : Type} {xs : List α} {i : Int} (h0 : 0 ≤ i) (h : i < xs.length) : ∃ x, L2.atI xs i = some x ∧ x ∈ xs := by
  have h' : i.toNat < xs.length := by omega
  exact ⟨xs[i.toNat], atI_i h0 h', List.getElem_mem h'⟩
/-! slices -/
theorem cutG_to {α : Type} {xs : List α} {k : Int} (h0 : 0 ≤ k) : cutG xs none (some k) = xs.take k.toNat := by
  unfold cutG
  simp [HT.sIx]
  rw [if_neg (by omega)]
  omega
theorem cutG_from {α : Type} {xs : List α} {k : Int} (h0 : 0 ≤ k) : cutG xs (some k) none = xs.drop k.toNat := by
  unfold cutG
  simp [HT.sIx]
  rw [if_neg (by omega)]
  by_cases h : k.toNat ≤ xs.length
  · rw [show min k.toNat xs.length = k.toNat by omega, List.take_of_length_le (by rw [List.length_drop]; omega)]
  · rw [List.drop_eq_nil_of_le (show xs.length ≤ min k.toNat xs.length by omega), List.drop_eq_nil_of_le (show xs.length ≤ k.toNat by omega)]
    simp
end PL

/-! in-out calls of an object just made: f(g(..), constants) -/
namespace PL
open PySem PySem.Spec PyProof.Rows L2
/-- whole numbers as further arguments -/
def ROk (g : Cf) (es : List Expr) (ds : List D) : Prop := ∀ X : Cx, At g X → ∃ vs : List V, (∀ (K : PySem.W.Frag) (H : Hp), ImmL K H ds vs) ∧ PA X es (fun σ H Q => Q vs H)
def eCallT (n : Nat) (F : Fn1) (fe : Ex) (ds : List D) : Ex := fun ρ => fe ρ >>= fun p => match p.1 with
  | .o d => if ds.length + 1 = n then F (d :: ds) >>= fun r => .ok (r.1, p.2) else .stuck
  | _ => .stuck
@[simp] theorem x_callT (n : Nat) (F : Fn1) (fe : Ex) (ds : List D) (ρ : Rho) : eCallT n F fe ds ρ = (fe ρ >>= fun p => match p.1 with
  | .o d => if ds.length + 1 = n then F (d :: ds) >>= fun r => .ok (r.1, p.2) else .stuck
  | _ => .stuck) := (rfl)
section
variable {g : Cf} {e : Expr} {es : List Expr} {pos : Pos}
theorem r_nil : ROk g [] [] := fun X A => ⟨[], fun _ _ => rfl, PA.imp pa_nil fun σ H Q q => q⟩
theorem r_int {i : Int} {j : Nat} {ds : List D} (h : ROk g es ds) (hs : ∀ env, starEach (.Constant (.int i) j pos :: es) env = (false, eval (.Constant (.int i) j pos) env) :: starEach es env := by intro _; rfl) : ROk g (.Constant (.int i) j pos :: es) (.int i :: ds) := fun X A => by
  obtain ⟨vs, h1, h2⟩ := h X A
  exact ⟨.int i :: vs, fun K H => ⟨_, _, rfl, rfl, h1 K H⟩, PA.imp (pa_cons pe_int h2 (hs _)) fun σ H Q q => q⟩
theorem e_callT {x : Str} {p : Pos} {n : Nat} {F : Fn1} {fe : Ex} {ds : List D} (hc : Cal1 g x n 0 F) (he : EOk g e fe) (hr : ROk g es ds) (hg : Glo g x := by rfl) (hdb : (x == ("__debug__" : Str)) = false := by decide)
    (hs : ∀ env, starEach (e :: es) env = (false, eval e env) :: starEach es env := by intro _; rfl) (hpl : ∀ env, (backTo pos (starEach es env)).any (·.1) = false := by intro _; rfl) : EOk g (.Call (.Name x p) (e :: es) [] pos) (eCallT n (fun ds => noX (F ds)) fe ds) := fun X W A tk => by
  obtain ⟨f, fd, ps, h1, h2, h3, h4⟩ := hc.ex
  have h1' : FnOk X.prog X.w X.K X.mg X.base (L2.CX X.prog X.w) g.k f fd ps (sp1 X.K n 0 F) := by rw [A.prog, A.w, A.K, A.mg, A.base]; exact h1
  obtain ⟨vs, v1, v2⟩ := hr X A
  refine PE.imp (pe_callS h1' A.room (hg.gl A) (by rw [A.mg]; exact h2) (by rw [A.K]; exact h3) (by rw [A.K]; exact h4) (fun σ => passAt tk σ) (pa_cons (he X W A tk) v2 (hs _)) hdb (hs _) (hpl _)) fun σ H Q ⟨ρ, R, q⟩ => ⟨ρ, R, ?_⟩
  unfold eCallT at q
  cases hfe : fe ρ with
  | stuck => rw [hfe] at q; exact q.elim
  | exc c ρ' => rw [hfe] at q; exact q
  | ok p =>
    obtain ⟨z, ρ'⟩ := p
    rw [hfe, bind_ok] at q
    intro H1 E1 R1 y sr
    cases z with
    | v d => exact q.elim
    | b i => exact q.elim
    | o d =>
      simp only at q
      split at q
      case isFalse => exact q.elim
      rename_i hlen
      obtain ⟨a, e1, ow, no, h0⟩ := sr
      subst e1
      have hl : vs.length = ds.length := (v1 X.K H1).len
      refine ⟨d :: ds, a, d, by rw [List.length_cons]; exact hlen, by rw [List.length_cons, hl]; exact hlen, rfl, rfl, ow, fun k d' hk hd => ?_, ?_⟩
      · cases k with
        | zero => exact (hk rfl).elim
        | succ k =>
          obtain ⟨x, x1, x2⟩ := (v1 X.K H1).get' (i := k) (d := d') (by simpa using hd)
          exact ⟨x, by simpa using x1, x2⟩
      · cases hF : F (d :: ds) with
        | stuck => simp only [hF, noX] at q; exact q.elim
        | exc c ρ2 => simp only [hF, noX] at q; exact q.elim
        | ok r =>
          obtain ⟨s, d2⟩ := r
          simp only [hF, noX, bind_ok] at q
          intro H' y E2 keep o2 rs
          have R2 := R1.but E2 keep no h0
          refine q H' (E1.trans E2) R2 y ?_
          cases s with
          | v d' => exact rs
          | o d' =>
            obtain ⟨b, e2, h5, h6⟩ := rs
            exact ⟨b, e2, h6, not_own R1 h5, not_old R1 h5⟩
          | b j => exact rs.elim
/-! a comprehension's list to a cell, or from another line -/
theorem sw_cell {elt : Expr} {gs : List Comprehension} {scope : Scope} {pos py : Pos} {y : Str} {l : Nat} {env : Env} (hy : env.scope.names.lookup y = some .cell) : swapsWith (.ListComp elt gs scope pos) (some (.Name y py)) l env = pure false := by
  have ky : env.kindOf y = some .cell := hy
  unfold swapsWith
  simp only [ky]
  cases env.blockKind <;> rfl
theorem sw_line {elt : Expr} {gs : List Comprehension} {scope : Scope} {pos py : Pos} {y : Str} {l : Nat} {env : Env} (hl : (py.line == pos.line) = false) : swapsWith (.ListComp elt gs scope pos) (some (.Name y py)) l env = pure false := by
  unfold swapsWith
  simp only [Expr.pos, hl]
  cases env.blockKind <;> cases env.kindOf y <;> simp
/-! a, b = x, y -/
def sPar (l : List Nat) (i j : Nat) (fa : Ax) : Sx := fun ρ => aF l fa ρ >>= fun p => match p.1 with
  | [d, e] => if i ∈ l ∨ j ∈ l then .stuck else .ok (.next ((p.2.set i (some (.v d))).set j (some (.v e))))
  | _ => .stuck
@[simp] theorem x_sPar (l : List Nat) (i j : Nat) (fa : Ax) (ρ : Rho) : sPar l i j fa ρ = (aF l fa ρ >>= fun p => match p.1 with
  | [d, e] => if i ∈ l ∨ j ∈ l then .stuck else .ok (.next ((p.2.set i (some (.v d))).set j (some (.v e))))
  | _ => .stuck) := (rfl)
theorem s_par {i j : Nat} {x y : Str} {a b : Expr} {fa : Ax} {px py pt : Pos} {kt k2 pt2} (sx : Slot g x i) (sy : Slot g y j) (hij : i ≠ j) (hk : g.sc.kind = .function) (hx : g.sc.names.lookup x = some .local) (hy : g.sc.names.lookup y = some .local) (ha : AOk g [a, b] fa)
    (hw : ∀ env : Env, env.blockKind = .function → env.kindOf x = some .local → env.kindOf y = some .local → swappedStores [.Tuple [.Name x px, .Name y py] kt pt] (.Tuple [a, b] k2 pt2) env = pure (some [x, y]) := by
      intro env hb hx hy; unfold swappedStores; simp only [List.filterMap, hb, hx, hy]; rfl)
    (hs : ∀ env, swapsWithSole [.Tuple [.Name x px, .Name y py] kt pt] (.Tuple [a, b] k2 pt2) pos.line env = pure false := by intro _; rfl) :
    SOk g (.Assign [.Tuple [.Name x px, .Name y py] kt pt] (.Tuple [a, b] k2 pt2) pos) (sPar g.ios i j fa) := fun X W A tk => by
  have kx : X.env.kindOf x = some .local := by show X.env.scope.names.lookup x = _; rw [A.sc]; exact hx
  have ky : X.env.kindOf y = some .local := by show X.env.scope.names.lookup y = _; rw [A.sc]; exact hy
  have kb : X.env.blockKind = .function := by unfold Env.blockKind; rw [A.sc, hk]; rfl
  refine PS.imp (ps_par (i := i) (j := j) A.calm (by rw [A.N]; exact sx.nd) (by rw [A.N]; exact sx.ix) (by rw [A.N]; exact sy.ix) hij kx ky (ha.f A.toAt tk) (hw _ kb kx ky) (hs _)) fun D σ H ⟨ρ, R, q⟩ => ⟨ρ, R, Ps_step q fun p _ q1 H1 E1 R1 vs im => ?_⟩
  obtain ⟨ds, ρ1⟩ := p
  match ds, im, q1 with
  | [d, e], im, q1 =>
    obtain ⟨v, r, e1, i1, w, r2, e2, i2, e3⟩ := im
    subst e1
    subst e2
    cases (show _ = _ from e3)
    refine ⟨v, w, rfl, ?_⟩
    have q1 : PsS X.K g H W D (if i ∈ g.ios ∨ j ∈ g.ios then .stuck else .ok (.next ((ρ1.set i (some (.v d))).set j (some (.v e))))) := q1
    split at q1
    · exact q1.elim
    · rename_i hio
      have R1 : ER X.K g ρ1 σ H1 := R1
      have n1 : i ∉ g.ios := fun z => hio (.inl z)
      have n2 : j ∉ g.ios := fun z => hio (.inr z)
      have R2 := R1.set (s := .v d) (x := v) i1 n1
      have R3 := R2.set (s := .v e) (x := w) i2 n2
      exact q1 _ H1 E1 R3
  | [], _, q1 => exact q1.elim
  | [_], _, q1 => exact q1.elim
  | _ :: _ :: _ :: _, _, q1 => exact q1.elim
end
/-! comprehensions whose turns change the state -/
section
variable {α β : Type}
def LVJ (vs : List Nat) (J : Rho → Prop) (g : D) : Out (D × Rho) → Prop
  | .ok (v, ρ3) => v = g ∧ J (wipeE ρ3 vs)
  | _ => False
def LTJ (l vs : List Nat) (fe : Ex) (J : Rho → Prop) (c : Bool) (g : D) : Out (Bool × Rho) → Prop
  | .ok (b, ρ2) => b = c ∧ (if b = true then LVJ vs J g (eF l fe ρ2) else J (wipeE ρ2 vs))
  | _ => False
section
variable {l vs : List Nat} {fe : Ex} {J : Rho → Prop} {ρ : Rho} {c b : Bool} {g v : D}
@[simp] theorem x_LVJ : LVJ vs J g (.ok (v, ρ)) = (v = g ∧ J (wipeE ρ vs)) := (rfl)
@[simp] theorem x_LTJ : LTJ l vs fe J c g (.ok (b, ρ)) = (b = c ∧ (if b = true then LVJ vs J g (eF l fe ρ) else J (wipeE ρ vs))) := (rfl)
end
theorem lcJ_go {l vs : List Nat} {ft : Gx} {tt : Tx} {fe : Ex} {h : β → D} (all : List β) (J : Nat → Rho → Prop) (c : β → Bool) (g : β → D) (hs : ∀ i x ρ, all[i]? = some x → J i ρ → LTJ l vs fe (J (i + 1)) (c x) (g x) (bnd tt () (liftO (ft (h x) ρ)))) :
    ∀ (xs : List β) (n : Nat) (acc : List D) (ρ : Rho), all.drop n = xs → n + xs.length = all.length → acc.length + xs.length ≤ 16777216 → J n ρ → ∃ ρ', lcLp l vs ft tt fe (xs.map h) ρ acc = .ok (acc ++ (xs.filter c).map g, ρ') ∧ J all.length ρ'
  | [], n, acc, ρ, _, hn, _, hj => ⟨ρ, by simp [lcLp], by rw [← hn]; exact hj⟩
  | x :: xs, n, acc, ρ, e, hn, hl, hj => by
    have hx : all[n]? = some x := by
      have := congrArg (fun l => l[0]?) e
      simpa using this
    have s := hs n x ρ hx hj
    have e' : all.drop (n + 1) = xs := by rw [← List.drop_drop, e]; rfl
    rw [List.length_cons] at hn hl
    have ih := fun acc' ρ' hl' => lcJ_go (l := l) (vs := vs) (ft := ft) (tt := tt) (fe := fe) (h := h) all J c g hs xs (n + 1) acc' ρ' e' (by omega) hl'
    rw [List.map_cons, lcLp]
    cases e1 : ft (h x) ρ with
    | none => rw [e1] at s; exact s.elim
    | some ρ1 =>
      rw [e1] at s
      have s : LTJ l vs fe (J (n + 1)) (c x) (g x) (tt ρ1) := s
      rw [liftO_some, bind_ok]
      cases e2 : tt ρ1 with
      | stuck => rw [e2] at s; exact s.elim
      | exc c' ρ' => rw [e2] at s; exact s.elim
      | ok p =>
        obtain ⟨b, ρ2⟩ := p
        rw [e2] at s
        obtain ⟨hb, s⟩ := s
        rw [bind_ok]
        cases hc : c x with
        | false =>
          rw [hc] at hb
          subst hb
          have s : J (n + 1) (wipeE ρ2 vs) := s
          obtain ⟨ρ', h1, h2⟩ := ih acc (wipeE ρ2 vs) (by omega) s
          refine ⟨ρ', ?_, h2⟩
          rw [if_neg (by simp), h1, List.filter_cons_of_neg (by rw [hc]; simp)]
        | true =>
          rw [hc] at hb
          subst hb
          have s : LVJ vs (J (n + 1)) (g x) (eF l fe ρ2) := s
          cases e3 : eF l fe ρ2 with
          | stuck => rw [e3] at s; exact s.elim
          | exc c' ρ' => rw [e3] at s; exact s.elim
          | ok p =>
            obtain ⟨v, ρ3⟩ := p
            rw [e3] at s
            obtain ⟨s1, s2⟩ := s
            subst s1
            obtain ⟨ρ', h1, h2⟩ := ih (acc ++ [g x]) (wipeE ρ3 vs) (by rw [List.length_append, List.length_singleton]; omega) s2
            refine ⟨ρ', ?_, h2⟩
            rw [if_pos rfl, bind_ok, if_pos (by omega), h1, List.filter_cons_of_pos hc, List.map_cons, List.append_assoc]
            rfl
theorem lcJ_P {l vs : List Nat} {ft : Gx} {tt : Tx} {fe : Ex} {h : β → D} {k : List D × Rho → Out α} {w : Wit k} {P : Out α → Prop} {ds : List D} {ρ : Rho} (xs : List β) (J : Nat → Rho → Prop) (c : β → Bool) (g : β → D) (hd : ds = xs.map h) (hl : xs.length ≤ 16777216) (h0 : J 0 ρ)
    (hs : ∀ i x ρ, xs[i]? = some x → J i ρ → LTJ l vs fe (J (i + 1)) (c x) (g x) (bnd tt () (liftO (ft (h x) ρ)))) (he : ∀ ρ, J xs.length ρ → P (k ((xs.filter c).map g, ρ))) : P (bnd k w (nox (lcLp l vs ft tt fe ds ρ []))) := by
  subst hd
  obtain ⟨ρ', h1, h2⟩ := lcJ_go xs J c g hs xs 0 [] ρ rfl (by omega) (by simpa using hl) h0
  rw [h1]
  exact he ρ' h2
theorem lmJ_P {l vs : List Nat} {ft : Gx} {fe : Ex} {h : β → D} {k : List D × Rho → Out α} {w : Wit k} {P : Out α → Prop} {ds : List D} {ρ : Rho} (xs : List β) (J : Nat → Rho → Prop) (g : β → D) (hd : ds = xs.map h) (hl : xs.length ≤ 16777216) (h0 : J 0 ρ)
    (hs : ∀ i x ρ, xs[i]? = some x → J i ρ → LTJ l vs fe (J (i + 1)) true (g x) (bnd tsNo () (liftO (ft (h x) ρ)))) (he : ∀ ρ, J xs.length ρ → P (k (xs.map g, ρ))) : P (bnd k w (nox (lcLp l vs ft tsNo fe ds ρ []))) := by
  refine lcJ_P xs J (fun _ => true) g hd hl h0 hs fun ρ hj => ?_
  rw [List.filter_eq_self.mpr (fun _ _ => rfl)]
  exact he ρ hj
theorem lcJ_v {Q : α → Prop} {l vs : List Nat} {ft : Gx} {tt : Tx} {fe : Ex} {h : β → D} {k : List D × Rho → Out α} {w : Wit k} {ds : List D} {ρ : Rho} (xs : List β) (J : Nat → Rho → Prop) (c : β → Bool) (g : β → D) (hd : ds = xs.map h) (hl : xs.length ≤ 16777216) (h0 : J 0 ρ)
    (hs : ∀ i x ρ, xs[i]? = some x → J i ρ → LTJ l vs fe (J (i + 1)) (c x) (g x) (bnd tt () (liftO (ft (h x) ρ)))) (he : ∀ ρ, J xs.length ρ → Ev (k ((xs.filter c).map g, ρ)) Q) : Ev (bnd k w (nox (lcLp l vs ft tt fe ds ρ []))) Q := lcJ_P (P := (Ev · Q)) xs J c g hd hl h0 hs he
theorem lmJ_v {Q : α → Prop} {l vs : List Nat} {ft : Gx} {fe : Ex} {h : β → D} {k : List D × Rho → Out α} {w : Wit k} {ds : List D} {ρ : Rho} (xs : List β) (J : Nat → Rho → Prop) (g : β → D) (hd : ds = xs.map h) (hl : xs.length ≤ 16777216) (h0 : J 0 ρ)
    (hs : ∀ i x ρ, xs[i]? = some x → J i ρ → LTJ l vs fe (J (i + 1)) true (g x) (bnd tsNo () (liftO (ft (h x) ρ)))) (he : ∀ ρ, J xs.length ρ → Ev (k (xs.map g, ρ)) Q) : Ev (bnd k w (nox (lcLp l vs ft tsNo fe ds ρ []))) Q := lmJ_P (P := (Ev · Q)) xs J g hd hl h0 hs he
theorem lcJ_b {o : Out α} {l vs : List Nat} {ft : Gx} {tt : Tx} {fe : Ex} {h : β → D} {k : List D × Rho → Out α} {w : Wit k} {ds : List D} {ρ : Rho} (xs : List β) (J : Nat → Rho → Prop) (c : β → Bool) (g : β → D) (hd : ds = xs.map h) (hl : xs.length ≤ 16777216) (h0 : J 0 ρ)
    (hs : ∀ i x ρ, xs[i]? = some x → J i ρ → LTJ l vs fe (J (i + 1)) (c x) (g x) (bnd tt () (liftO (ft (h x) ρ)))) (he : ∀ ρ, J xs.length ρ → k ((xs.filter c).map g, ρ) = o) : bnd k w (nox (lcLp l vs ft tt fe ds ρ [])) = o := lcJ_P (P := (· = o)) xs J c g hd hl h0 hs he
theorem lmJ_b {o : Out α} {l vs : List Nat} {ft : Gx} {fe : Ex} {h : β → D} {k : List D × Rho → Out α} {w : Wit k} {ds : List D} {ρ : Rho} (xs : List β) (J : Nat → Rho → Prop) (g : β → D) (hd : ds = xs.map h) (hl : xs.length ≤ 16777216) (h0 : J 0 ρ)
    (hs : ∀ i x ρ, xs[i]? = some x → J i ρ → LTJ l vs fe (J (i + 1)) true (g x) (bnd tsNo () (liftO (ft (h x) ρ)))) (he : ∀ ρ, J xs.length ρ → k (xs.map g, ρ) = o) : bnd k w (nox (lcLp l vs ft tsNo fe ds ρ [])) = o := lmJ_P (P := (· = o)) xs J g hd hl h0 hs he
end
end PL

/-! dict comprehensions (keys: ints, texts) -/
namespace PL
open PySem PySem.Spec PyProof.Rows L2
def dcLp (l vs : List Nat) (ft : Gx) (tt : Tx) (fk fe : Ex) : List D → Rho → List (D × D) → Out (List (D × D) × Rho)
  | [], ρ, acc => .ok (acc, ρ)
  | d :: ds, ρ, acc => liftO (ft d ρ) >>= fun ρ1 => tt ρ1 >>= fun p =>
      if p.1 = true then eF l fk p.2 >>= fun q => liftO (keyD q.1) >>= fun k => eF l fe q.2 >>= fun r => if acc.length < 16777216 then dcLp l vs ft tt fk fe ds (wipeE r.2 vs) (gPut false acc [k] q.1 r.1) else .stuck
      else dcLp l vs ft tt fk fe ds (wipeE p.2 vs) acc
def eDc (l vs : List Nat) (fi : Ix) (ft : Gx) (tt : Tx) (fk fe : Ex) : Ex := fun ρ => fi ρ >>= fun p => if (∀ i ∈ vs, i ∉ l) then nox (dcLp l vs ft tt fk fe p.1 (wipeE p.2 vs) []) >>= fun q => .ok (.o (.dic false q.1), unwipe vs p.2 q.2) else .stuck
section
variable {J : It} {n : Nat} {G : Hp → Prop} {Y : Nat → Hp → V → Hp → Prop}
theorem dc_it (w : Walk J n G Y) {g : TG} {tt : TT} {tk te : TE} {vs : List Nat} {σ : L2.St} {H1 : Hp} {D : Addr} {Qd : Hp → Prop} (Pv : Nat → Hp → Prop) (h0 : Pv 0 (upd H1 D (.dK []))) (hG : ∀ i H, i ≤ n → Pv i H → G H)
    (hs : ∀ i x H H', i < n → Pv i H → Y i H x H' → g x (wipe σ vs) H' fun σ2 H2 => wipe σ2 vs = wipe σ vs ∧ tt σ2 H2 fun b H3 =>
      if b = true then tk σ2 H3 fun y H4 => te σ2 H4 fun z H5 => ∃ kvs k, y = kV k ∧ H5 D = some (.dK kvs) ∧ kvs.length < sizeLine ∧ Pv (i + 1) (upd H5 D (.dK (putK kvs k z))) else Pv (i + 1) H3) (hd : ∀ H, Pv n H → Qd H) :
    ∃ W : Nat → Nat → Hp → Prop, (∃ m, W 0 m (upd H1 D (.dK []))) ∧ ∀ i m H, W i m H →
      (J.stop i H ∧ Qd H) ∨ (J.go i H ∧ ∃ Nx : Hp → Prop, (∀ H', Nx H' → ∃ m', m' < m ∧ W (i + 1) m' H') ∧ ∀ x H', J.yld i H x H' → g x (wipe σ vs) H' fun σ2 H2 => wipe σ2 vs = wipe σ vs ∧ tt σ2 H2 fun b H3 =>
        if b = true then tk σ2 H3 fun y H4 => te σ2 H4 fun z H5 => ∃ kvs k, y = kV k ∧ H5 D = some (.dK kvs) ∧ kvs.length < sizeLine ∧ Nx (upd H5 D (.dK (putK kvs k z))) else Nx H3) := by
  refine ⟨fun i m H => m = n - i ∧ i ≤ n ∧ Pv i H, ⟨n, by simp, Nat.zero_le _, h0⟩, ?_⟩
  rintro i m H ⟨rfl, hi, p⟩
  have q := hG i H hi p
  by_cases hlt : i < n
  · refine .inr ⟨w.goes i H hlt q, Pv (i + 1), fun H' p' => ⟨n - (i + 1), by omega, rfl, hlt, p'⟩, fun x H' y => hs i x H H' hlt p (w.yields i H x H' hlt q y)⟩
  · have e : i = n := by omega
    subst e
    exact .inl ⟨w.stops H q, hd H p⟩
end
section
variable {g : Cf} {X : Cx} {e a b c tg kx elt iter : Expr} {ifs : List Expr} {pos : Pos} {W : WX} {K : PySem.W.Frag}
/-- the heart of a comprehension's reading -/
theorem read_dc {scope : Scope} {own : List (Str × Nat)} {ts vs : List Nat} {fi : Ix} {ft : Gx} {tt : Tx} {fk fe : Ex} (A : At g X) (hts : ∀ i ∈ ts, i ∈ vs) {σ : L2.St} {H : Hp} {Q : VK} {tgt : TG} {ttt : TT} {ttk tte : TE}
    (hg : ∀ {v σ2 H2 Q} {H0 : Hp}, tGx X.K (g.blk scope H0) ts ft v σ2 H2 Q → tgt v σ2 H2 Q)
    (ht : ∀ {σ2 H2 Q} {H0 : Hp}, tT X.K (g.blk scope H0) tt (fun _ _ _ _ => False) σ2 H2 Q → ttt σ2 H2 Q)
    (hk : ∀ {σ2 H2 Q} {H0 : Hp}, tF X.K (g.blk scope H0) fk (fun _ _ _ _ => False) σ2 H2 Q → ttk σ2 H2 Q)
    (he : ∀ {σ2 H2 Q} {H0 : Hp}, tF X.K (g.blk scope H0) fe (fun _ _ _ _ => False) σ2 H2 Q → tte σ2 H2 Q)
    (t : tE X.K g (eDc g.ios vs fi ft tt fk fe) W σ H Q) : tDc (tI X.K g fi W) tgt ttt ttk tte vs σ H Q := by
  obtain ⟨ρ, R, q⟩ := t
  refine ⟨ρ, R, ?_⟩
  unfold eDc at q
  cases hf : fi ρ with
  | stuck => rw [hf] at q; exact q.elim
  | exc c ρ1 => rw [hf] at q; exact q
  | ok p =>
    obtain ⟨ds, ρ1⟩ := p
    rw [hf] at q
    simp only [bind_ok] at q
    split at q
    case isFalse => exact q.elim
    rename_i hio
    cases hl : nox (dcLp g.ios vs ft tt fk fe ds (wipeE ρ1 vs) []) with
    | stuck => rw [hl] at q; exact q.elim
    | exc c ρ' => exact (nox_noexc hl).elim
    | ok r =>
      rw [hl] at q
      obtain ⟨out, ρ9⟩ := r
      have hl := nox_ok hl
      intro H1 E1 R1 J it D hD
      obtain ⟨G, Y, w, g1, gs, y⟩ := it
      have smD : Same H1 (upd H1 D (.dK [])) := new_tup (K := X.K) hD
      refine dc_it w (fun i H2 => G H2 ∧ Ext H1 H2 ∧ ∃ ρi acc vacc, ER X.K g ρi (wipe σ vs) H2 ∧ ¬ Own ρi (wipe σ vs) D ∧ H2 D = some (.dK vacc) ∧ ImmK X.K H2 acc vacc ∧ dcLp g.ios vs ft tt fk fe (ds.drop i) ρi acc = .ok (out, ρ9)) ?_ (fun i H2 _ h => h.1) (fun i x H2 H3 hi h hy => ?_) (fun H2 h => ?_)
      · refine ⟨gs _ _ (Ext.of_same smD) g1, Ext.of_same smD, wipeE ρ1 vs, [], [], (R1.wipe hio).same smD, fun o => not_own R1 hD (own_wipe o), upd_same, rfl, hl⟩
      · obtain ⟨g2, E2, ρi, acc, vacc, Ri, no, hDi, im, hl2⟩ := h
        obtain ⟨sm, d, hd, imd⟩ := y i H2 x H3 hi g2 hy
        have hdrop : ds.drop i = d :: ds.drop (i + 1) := by
          have e1 := List.drop_eq_getElem_cons hi
          rw [List.getElem?_eq_getElem hi] at hd
          rw [e1, Option.some.inj hd]
        rw [hdrop] at hl2
        obtain ⟨ρ2, h2, hl3⟩ := bind_is hl2
        have h2 := liftO_is h2
        obtain ⟨p, h3, hl4⟩ := bind_is hl3
        have Ri3 := Ri.same sm
        have hD3 : H3 D = some (.dK vacc) := sm _ _ hDi
        have Rb : ER X.K (g.blk scope (hold ρi (wipe σ vs) H3)) ρi (wipe σ vs) H3 := Ri3.rebase _ rfl rfl
        have hH0 : hold ρi (wipe σ vs) H3 D = some (.dK vacc) := by rw [hold_not no]; exact hD3
        have notio : ∀ p ∈ g.io, p.2 ≠ D := fun p hp z => by
          obtain ⟨h5, d', h6⟩ := Ri3.io p hp
          exact no ⟨p.1, d', h6, by rw [h5, z]⟩
        -- what a state of the block tells
        have fin : ∀ {ρ4 : Rho} {σ4 : L2.St} {H4 : Hp}, ER X.K (g.blk scope (hold ρi (wipe σ vs) H3)) ρ4 σ4 H4 → Ext H3 H4 → Chs ts (wipe σ vs) σ4 →
            H4 D = some (.dK vacc) ∧ ER X.K g (wipeE ρ4 vs) (wipe σ vs) H4 ∧ ¬ Own (wipeE ρ4 vs) (wipe σ vs) D ∧ G H4 ∧ Ext H1 H4 := fun {ρ4 σ4 H4} R4 E4 C4 => by
          have k1 : H4 D = some (.dK vacc) := R4.old D _ hH0 notio
          have k2 := (Ri3.back (g' := g.blk scope (hold ρi (wipe σ vs) H3)) rfl rfl R4).wipe hio
          have k3 : wipe σ4 vs = wipe σ vs := by rw [wipe_chs C4 hts, wipe_wipe]
          rw [k3] at k2
          refine ⟨k1, k2, fun o => ?_, gs _ _ ((Ext.of_same sm).trans E4) g2, E2.trans ((Ext.of_same sm).trans E4)⟩
          rw [← k3] at o
          obtain ⟨j, d', o1, o2⟩ := own_wipe o
          rcases R4.new j d' D o1 o2 with z | z
          · have z : hold ρi (wipe σ vs) H3 D = none := z
            rw [hH0] at z; cases z
          · exact notio _ z rfl
        refine hg (H0 := hold ρi (wipe σ vs) H3) ⟨ρi, d, Rb, imd, ?_⟩
        rw [h2]
        intro σ4 H4 C4 E4 R4
        refine ⟨by rw [wipe_chs C4 hts, wipe_wipe], ht (H0 := hold ρi (wipe σ vs) H3) ⟨ρ2, R4, ?_⟩⟩
        rw [h3]
        intro H5 E5 R5
        obtain ⟨b, ρ5⟩ := p
        cases b with
        | false =>
          obtain ⟨k1, k2, k3, k4, k5⟩ := fin R5 (E4.trans E5) C4
          refine iteF ⟨k4, k5, _, acc, vacc, k2, k3, k1, ImmK.ext ((Ext.of_same sm).trans (E4.trans E5)) _ _ im, hl4⟩
        | true =>
          obtain ⟨r, h6, hl5⟩ := bind_is hl4
          obtain ⟨kk, h7, hl6⟩ := bind_is hl5
          have h7 := liftO_is h7
          obtain ⟨r2, h8, hl7⟩ := bind_is hl6
          refine iteT (hk (H0 := hold ρi (wipe σ vs) H3) ⟨ρ5, R5, ?_⟩)
          have h6' : eF (g.blk scope (hold ρi (wipe σ vs) H3)).ios fk ρ5 = .ok r := h6
          rw [h6']
          intro H6 E6 R6 y6 im6
          refine he (H0 := hold ρi (wipe σ vs) H3) ⟨r.2, R6, ?_⟩
          have h8' : eF (g.blk scope (hold ρi (wipe σ vs) H3)).ios fe r.2 = .ok r2 := h8
          rw [h8']
          intro H7 E7 R7 v7 im7
          obtain ⟨k1, k2, k3, k4, k5⟩ := fin R7 (((E4.trans E5).trans E6).trans E7) C4
          split at hl7
          case isFalse => cases hl7
          rename_i hlen
          have im' := ImmK.ext ((Ext.of_same sm).trans (((E4.trans E5).trans E6).trans E7)) _ _ im
          refine ⟨vacc, kk, rd_key (.inl im6) h7, k1, by rw [immK_len im', sizeLine_eq]; exact hlen, ?_⟩
          have x7 : Ext H7 (upd H7 D (.dK (putK vacc kk v7))) := fun b ob hb => by
            by_cases hba : b = D
            · subst hba
              rw [k1] at hb; cases hb
              exact ⟨fun xs e => (by cases e), fun _ _ e => (by cases e)⟩
            · exact ⟨fun _ _ => by rw [upd_ne hba]; exact hb, fun _ _ _ => by rw [upd_ne hba]; exact hb⟩
          have h0D : g.H0 D = none := not_old R1 hD
          refine ⟨gs _ _ x7 k4, k5.trans x7, _, gPut false acc [kk] r.1 r2.1, putK vacc kk v7, k2.but (a := D) x7 (fun b ob hb hh => by rw [upd_ne hb]; exact hh) k3 h0D, k3, upd_same, ImmK.ext x7 _ _ (immK_put h7 im7 im'), hl7⟩
      · obtain ⟨g2, E2, ρi, acc, vacc, Ri, no, hDi, im, hl2⟩ := h
        rw [List.drop_length] at hl2
        cases hl2
        have R9 := R1.unwipe Ri E2 hio
        exact q H2 (E1.trans E2) R9 _ ⟨D, rfl, ⟨vacc, hDi, im⟩, fun o => no (own_unwipe o), not_old R1 hD⟩
theorem e_dc {scope : Scope} {own : List (Str × Nat)} {ts vs : List Nat} {fi : Ix} {ft : Gx} {tt : Tx} {fk fe : Ex} (nd : g.N.Nodup) (ok : blkC g.N g.sc scope own = true) (hvs : own.map (·.2) = vs) (hts : (ts.all fun i => vs.contains i) = true) (hi : IOk g tg iter fi)
    (hg : ∀ H0, GOk (g.blk scope H0) tg ts ft) (ht : ∀ H0, TsOk (g.blk scope H0) ifs tt) (hk : ∀ H0, EOk (g.blk scope H0) kx fk) (he : ∀ H0, EOk (g.blk scope H0) elt fe) (hs : ∀ env x, foldedSetIterable iter env x = pure x := by intro _ _; rfl) :
    EOk g (.DictComp kx elt [⟨tg, iter, ifs, 0⟩] scope pos) (eDc g.ios vs fi ft tt fk fe) := fun X W A tk => by
  subst hvs
  have hts' : ∀ i ∈ ts, i ∈ own.map (·.2) := fun i hi => by simpa using List.all_eq_true.mp hts i hi
  have key := pe_dc (g := fun v σ H Q => ∃ H0, tGx X.K (g.blk scope H0) ts ft v σ H Q) (tt := fun σ H Q => ∃ H0, tT X.K (g.blk scope H0) tt (fun _ _ _ _ => False) σ H Q) (tk := fun σ H Q => ∃ H0, tF X.K (g.blk scope H0) fk (fun _ _ _ _ => False) σ H Q) (tv := fun σ H Q => ∃ H0, tF X.K (g.blk scope H0) fe (fun _ _ _ _ => False) σ H Q)
    (own := own) (scope := scope) (pos := pos) A.calm (by rw [A.N]; exact nd) (hi X W A tk) (by rw [A.N, A.sc]; exact blkOk_by ok)
    (fun s H C cl fp => ⟨fun pins s σ H v u Q I r ⟨H0, q⟩ => ((hg H0) _ A.blk).run pins s σ H v u Q I r q⟩)
    (fun s H C cl fp => ⟨fun pins s σ H Q I ⟨H0, q⟩ => ((ht H0) _ _ A.blk takes0).run pins s σ H Q I q⟩)
    (fun s H C cl fp => ⟨fun pins s σ H Q I ⟨H0, q⟩ => ((hk H0).f A.blk takes0).run pins s σ H Q I q⟩)
    (fun s H C cl fp => ⟨fun pins s σ H Q I ⟨H0, q⟩ => ((he H0).f A.blk takes0).run pins s σ H Q I q⟩) (hs _)
  exact PE.imp key fun σ H Q t => read_dc (scope := scope) (own := own) A hts' (fun {v σ2 H2 Q H0} h => ⟨H0, h⟩) (fun {σ2 H2 Q H0} h => ⟨H0, h⟩) (fun {σ2 H2 Q H0} h => ⟨H0, h⟩) (fun {σ2 H2 Q H0} h => ⟨H0, h⟩) t
theorem swD_true {scope : Scope} {gs : List Comprehension} {py : Pos} {y : Str} {l : Nat} {env : Env} (hk : env.scope.kind = .function) (hy : env.scope.names.lookup y = some .local) (hl : (py.line == pos.line) = true)
    (ha : (scope.names.any fun (n, k) => n == y && (k == .local || k == .cell)) = false) : swapsWith (.DictComp kx elt gs scope pos) (some (.Name y py)) l env = pure true := by
  have ky : env.kindOf y = some .local := hy
  have hb : env.blockKind = .function := by unfold Env.blockKind; rw [hk]; rfl
  unfold swapsWith
  simp only [hb, ky, ha, Expr.pos, hl]
  rfl
theorem swD_cell {scope : Scope} {gs : List Comprehension} {py : Pos} {y : Str} {l : Nat} {env : Env} (hy : env.scope.names.lookup y = some .cell) : swapsWith (.DictComp kx elt gs scope pos) (some (.Name y py)) l env = pure false := by
  have ky : env.kindOf y = some .cell := hy
  unfold swapsWith
  simp only [ky]
  cases env.blockKind <;> rfl
theorem swD_line {scope : Scope} {gs : List Comprehension} {py : Pos} {y : Str} {l : Nat} {env : Env} (hl : (py.line == pos.line) = false) : swapsWith (.DictComp kx elt gs scope pos) (some (.Name y py)) l env = pure false := by
  unfold swapsWith
  simp only [Expr.pos, hl]
  cases env.blockKind <;> cases env.kindOf y <;> simp
theorem ps_setDc {i : Nat} {y : Str} {py : Pos} {scope : Scope} {own : List (Str × Nat)} {spos : Pos} {wi : TI} {g : TG} {tt : TT} {tk tv : TE} (hc : X.calm = true) (hN : X.N.Nodup) (hy : X.N[i]? = some y) (hyl : X.env.scope.names.lookup y = some .local)
    (hsw : swapsWith (.DictComp kx elt [⟨tg, iter, ifs, 0⟩] scope pos) (some (.Name y py)) spos.line X.env = pure true) (hi : PI X tg iter wi) (ok : BlkOk X.N X.env.scope scope own)
    (hg : ∀ (s : Shared) (H : Hp) (C : Addr) (cl : List (Str × Addr)) (fp : List Addr), PG (X.blk s H scope (compEnvC scope cl C X.env) fp) tg g) (ht : ∀ (s : Shared) (H : Hp) (C : Addr) (cl : List (Str × Addr)) (fp : List Addr), PTs (X.blk s H scope (compEnvC scope cl C X.env) fp) ifs tt)
    (hk : ∀ (s : Shared) (H : Hp) (C : Addr) (cl : List (Str × Addr)) (fp : List Addr), PE (X.blk s H scope (compEnvC scope cl C X.env) fp) kx tk)
    (he : ∀ (s : Shared) (H : Hp) (C : Addr) (cl : List (Str × Addr)) (fp : List Addr), PE (X.blk s H scope (compEnvC scope cl C X.env) fp) elt tv) (hs : ∀ x, foldedSetIterable iter X.env x = pure x := by intro _; rfl) :
    PS X (.Assign [.Name y py] (.DictComp kx elt [⟨tg, iter, ifs, 0⟩] scope pos) spos) (tAsg (tDc wi g tt tk tv (own.map (·.2))) (gName i)) := by
  refine ⟨fun pins s σ H D I h => ?_⟩
  rw [exec_Assign_Name_used _ _ _ _ hsw]
  refine wpAny_bind (wpAny_standAt (wpAny_bind ?_))
  show wpAny _ X.A (do let _ ← comprehension (.DictComp kx elt [⟨tg, iter, ifs, 0⟩] scope pos) scope X.env (firstIterPos [⟨tg, iter, ifs, 0⟩] pos) newDict false (eval iter X.env) (some (assign (.Name y py) X.env))) _ _ s
  have h : tDc wi g tt tk tv (own.map (·.2)) σ H (fun x H1 => gName i x σ H1 D.nx) := h
  refine wpAny_bind (thn (dc_core (Qf := fun _ s' => SP X pins D .next s') hc hN I hi ok hg ht hk he hs h fun L C s' m H' I' q hn f => ?_) fun _ s' hq => wpAny_pure (wpAny_pure hq))
  show wpAny _ _ (assign (.Name y py) X.env (.ref L)) _ _ _
  refine wpAny_assign_Name (store_ok2 (v := V.ref L) I' hN hy (.inl hyl) rfl (fun s2 I2 ⟨a, sb, ha⟩ => ?_) (.inr hyl))
  obtain ⟨f0, f1, f2, f3, f4, f5⟩ := f
  have haC : C ≠ a := by
    rcases ha with z | z
    · rw [z]; exact f1
    · exact fun e => f4 y a z e.symm
  refine ⟨m, hn.sameBut sb haC, fun h3 sb3 => ?_⟩
  exact ⟨_, H', I2.turned (t' := s2.toks) (fun b o hb e => (sb3.2 b hb).trans e) f0 f1 f3 f4 f5, q⟩
theorem s_dc {x : Str} {i : Nat} {py spos : Pos} {scope : Scope} {own : List (Str × Nat)} {ts vs : List Nat} {fi : Ix} {ft : Gx} {tt : Tx} {fk fe : Ex} (sl : Slot g x i) (hloc : g.sc.names.lookup x = some .local) (hline : (py.line == pos.line) = true) (hown : (scope.names.any fun (n, k) => n == x && (k == .local || k == .cell)) = false)
    (hkind : g.sc.kind = .function) (ok : blkC g.N g.sc scope own = true) (hvs : own.map (·.2) = vs) (hts : (ts.all fun i => vs.contains i) = true) (hi : IOk g tg iter fi)
    (hg : ∀ H0, GOk (g.blk scope H0) tg ts ft) (ht : ∀ H0, TsOk (g.blk scope H0) ifs tt) (hk : ∀ H0, EOk (g.blk scope H0) kx fk) (he : ∀ H0, EOk (g.blk scope H0) elt fe) (hs : ∀ env x, foldedSetIterable iter env x = pure x := by intro _ _; rfl) :
    SOk g (.Assign [.Name x py] (.DictComp kx elt [⟨tg, iter, ifs, 0⟩] scope pos) spos) (sSet g.ios i (eDc g.ios vs fi ft tt fk fe)) := fun X W A tk => by
  subst hvs
  have hts' : ∀ i ∈ ts, i ∈ own.map (·.2) := fun i hi => by simpa using List.all_eq_true.mp hts i hi
  have key := ps_setDc (i := i) (y := x) (py := py) (spos := spos) (g := fun v σ H Q => ∃ H0, tGx X.K (g.blk scope H0) ts ft v σ H Q) (tt := fun σ H Q => ∃ H0, tT X.K (g.blk scope H0) tt (fun _ _ _ _ => False) σ H Q) (tk := fun σ H Q => ∃ H0, tF X.K (g.blk scope H0) fk (fun _ _ _ _ => False) σ H Q) (tv := fun σ H Q => ∃ H0, tF X.K (g.blk scope H0) fe (fun _ _ _ _ => False) σ H Q)
    (own := own) (scope := scope) (pos := pos) A.calm (by rw [A.N]; exact sl.nd) (by rw [A.N]; exact sl.ix) (by rw [A.sc]; exact hloc) (swD_true (by rw [A.sc]; exact hkind) (by rw [A.sc]; exact hloc) hline hown) (hi X W A.toAt tk) (by rw [A.N, A.sc]; exact blkOk_by ok)
    (fun s H C cl fp => ⟨fun pins s σ H v u Q I r ⟨H0, q⟩ => ((hg H0) _ A.toAt.blk).run pins s σ H v u Q I r q⟩)
    (fun s H C cl fp => ⟨fun pins s σ H Q I ⟨H0, q⟩ => ((ht H0) _ _ A.toAt.blk takes0).run pins s σ H Q I q⟩)
    (fun s H C cl fp => ⟨fun pins s σ H Q I ⟨H0, q⟩ => ((hk H0).f A.toAt.blk takes0).run pins s σ H Q I q⟩)
    (fun s H C cl fp => ⟨fun pins s σ H Q I ⟨H0, q⟩ => ((he H0).f A.toAt.blk takes0).run pins s σ H Q I q⟩) (hs _)
  refine PS.imp key fun D σ H ⟨ρ, R, q⟩ => ?_
  refine read_dc (scope := scope) (own := own) (W := W) A.toAt hts' (fun {v σ2 H2 Q H0} h => ⟨H0, h⟩) (fun {σ2 H2 Q H0} h => ⟨H0, h⟩) (fun {σ2 H2 Q H0} h => ⟨H0, h⟩) (fun {σ2 H2 Q H0} h => ⟨H0, h⟩) ⟨ρ, R, ?_⟩
  unfold sSet eBd at q
  cases hf : eDc g.ios (own.map (·.2)) fi ft tt fk fe ρ with
  | stuck => rw [hf] at q; exact q.elim
  | exc c ρ1 => rw [hf] at q; exact fun cls H' R' x m => q cls σ H' x R' m
  | ok p =>
    obtain ⟨s, ρ1⟩ := p
    rw [hf] at q
    have hso : ∃ d, s = .o d := by
      unfold eDc at hf
      obtain ⟨p1, _, h2⟩ := bind_is hf
      split at h2
      · obtain ⟨p3, _, h4⟩ := bind_is h2
        cases h4
        exact ⟨_, rfl⟩
      · cases h2
    obtain ⟨d, rfl⟩ := hso
    intro H1 E1 R1 x sr
    have q : PsS X.K g H W D (if i ∈ g.ios then .stuck else .ok (.next (ρ1.set i (some (.o d))))) := q
    split at q
    · exact q.elim
    · rename_i hio
      exact q _ H1 E1 (R1.set (s := .o d) sr hio)
end
/-! equations -/
@[simp] theorem x_eDc (l vs : List Nat) (fi : Ix) (ft : Gx) (tt : Tx) (fk fe : Ex) (ρ : Rho) : eDc l vs fi ft tt fk fe ρ = (fi ρ >>= fun p => if (∀ i ∈ vs, i ∉ l) then nox (dcLp l vs ft tt fk fe p.1 (wipeE p.2 vs) []) >>= fun q => .ok (.o (.dic false q.1), unwipe vs p.2 q.2) else .stuck) := (rfl)
end PL

/-! code that is not reached: a reckoning that is stuck tells nothing -/
namespace PL
open PySem PySem.Spec PyProof.Rows L2
def sStk : Sx := fun _ => .stuck
theorem s_stk {g : Cf} {st : Stmt} : SOk g st sStk := fun X W A t => ⟨fun pins s σ H D I ⟨ρ, R, q⟩ => q.elim⟩
/-! dict comprehensions in goals: no filter, keys that are different texts -/
section
variable {α β : Type}
def DTurn (l vs : List Nat) (ft : Gx) (fk fe : Ex) (d : D) (ρ : Rho) (z : Str) (g : D) : Prop :=
  ∃ ρ1 ρ2 ρ3, ft d ρ = some ρ1 ∧ eF l fk ρ1 = .ok (.str z, ρ2) ∧ eF l fe ρ2 = .ok (g, ρ3) ∧ wipeE ρ3 vs = ρ
theorem gGet_none {z : Str} : ∀ {kvs : List (D × D)}, (∀ p ∈ kvs, ∃ y, p.1 = .str y ∧ y ≠ z) → gGet false kvs [.inr z] = none
  | [], _ => by simp [gGet]
  | p :: r, h => by
    obtain ⟨y, e, ne⟩ := h p (List.mem_cons_self ..)
    rw [gGet_neg (by rw [e]; simp [kOf, keyD, ne])]
    exact gGet_none fun q hq => h q (List.mem_cons_of_mem _ hq)
theorem gPut_new {kvs : List (D × D)} {z : Str} {v : D} (h : ∀ p ∈ kvs, ∃ y, p.1 = .str y ∧ y ≠ z) : gPut false kvs [.inr z] (.str z) v = kvs ++ [(.str z, v)] := by
  simp [gPut, gGet_none h]
theorem dc_go {l vs : List Nat} {ft : Gx} {fk fe : Ex} {h : β → D} {ρ : Rho} (kk : β → Str) (vv : β → D) : ∀ (xs : List β) (acc : List β), acc.length + xs.length ≤ 16777216 → ((acc ++ xs).map kk).Nodup → (∀ x, x ∈ xs → DTurn l vs ft fk fe (h x) ρ (kk x) (vv x)) →
    dcLp l vs ft tsNo fk fe (xs.map h) ρ (acc.map fun x => (.str (kk x), vv x)) = .ok ((acc ++ xs).map fun x => (.str (kk x), vv x), ρ)
  | [], acc, _, _, _ => by rw [List.append_nil]; rfl
  | x :: xs, acc, hl, hn, hs => by
    obtain ⟨ρ1, ρ2, ρ3, e1, e2, e3, e4⟩ := hs x (List.mem_cons_self ..)
    rw [List.length_cons] at hl
    have ih := dc_go (l := l) (vs := vs) (ft := ft) (fk := fk) (fe := fe) (h := h) (ρ := ρ) kk vv xs (acc ++ [x]) (by simp; omega) (by simpa using hn) (fun y hy => hs y (List.mem_cons_of_mem _ hy))
    have hp : gPut false (acc.map fun x => (D.str (kk x), vv x)) [.inr (kk x)] (.str (kk x)) (vv x) = (acc ++ [x]).map fun x => (D.str (kk x), vv x) := by
      rw [gPut_new]
      · simp
      · rintro p hp
        obtain ⟨y, hy, rfl⟩ := List.mem_map.mp hp
        have hn' := hn
        rw [List.map_append, List.nodup_append] at hn'
        exact ⟨_, rfl, hn'.2.2 (kk y) (List.mem_map_of_mem hy) (kk x) (by simp)⟩
    rw [List.map_cons, dcLp, e1]
    have ha : (acc.map fun x => (D.str (kk x), vv x)).length < 16777216 := by rw [List.length_map]; omega
    have k1 : keyD (.str (kk x)) = some (.inr (kk x)) := rfl
    simp only [liftO_some, bind_ok, tsNo, e2, e3, e4, k1, ha, hp, if_true]
    simpa using ih
theorem dc_P {l vs : List Nat} {ft : Gx} {fk fe : Ex} {h : β → D} {k : List (D × D) × Rho → Out α} {w : Wit k} {P : Out α → Prop} {ds : List D} {ρ : Rho} (xs : List β) (kk : β → Str) (vv : β → D) (hd : ds = xs.map h) (hl : xs.length ≤ 16777216) (hn : (xs.map kk).Nodup)
    (hs : ∀ x, x ∈ xs → DTurn l vs ft fk fe (h x) ρ (kk x) (vv x)) (he : P (k (xs.map (fun x => (.str (kk x), vv x)), ρ))) : P (bnd k w (nox (dcLp l vs ft tsNo fk fe ds ρ []))) := by
  subst hd
  have := dc_go (l := l) (vs := vs) (ft := ft) (fk := fk) (fe := fe) (h := h) (ρ := ρ) kk vv xs [] (by simpa using hl) (by simpa using hn) hs
  rw [List.map_nil] at this
  rw [this]
  exact he
theorem dc_b {l vs : List Nat} {ft : Gx} {fk fe : Ex} {h : β → D} {k : List (D × D) × Rho → Out α} {w : Wit k} {o : Out α} {ds : List D} {ρ : Rho} (xs : List β) (kk : β → Str) (vv : β → D) (hd : ds = xs.map h) (hl : xs.length ≤ 16777216) (hn : (xs.map kk).Nodup)
    (hs : ∀ x, x ∈ xs → DTurn l vs ft fk fe (h x) ρ (kk x) (vv x)) (he : k (xs.map (fun x => (.str (kk x), vv x)), ρ) = o) : bnd k w (nox (dcLp l vs ft tsNo fk fe ds ρ [])) = o := dc_P (P := (· = o)) xs kk vv hd hl hn hs he
end
theorem gGet_map {β : Type} (kk : β → Str) (vv : β → D) (z : Str) : ∀ xs : List β, gGet false (xs.map fun x => (D.str (kk x), vv x)) [.inr z] = ((xs.find? fun x => decide (kk x = z)).map vv)
  | [] => by simp [gGet]
  | x :: xs => by
    have ih := gGet_map kk vv z xs
    by_cases e : kk x = z
    · rw [List.map_cons, gGet_pos (by simp [kOf, keyD, e])]
      simp [e]
    · rw [List.map_cons, gGet_neg (by simp [kOf, keyD, e]), ih]
      simp [e]
/-! comprehensions whose turns change the state, and whose items are told by the state -/
section
variable {α β : Type}
def LVE (vs : List Nat) (G : D → Rho → Prop) : Out (D × Rho) → Prop
  | .ok (v, ρ3) => G v (wipeE ρ3 vs)
  | _ => False
def LTE (l vs : List Nat) (fe : Ex) (G : D → Rho → Prop) : Out (Bool × Rho) → Prop
  | .ok (b, ρ2) => b = true ∧ LVE vs G (eF l fe ρ2)
  | _ => False
section
variable {l vs : List Nat} {fe : Ex} {G : D → Rho → Prop} {ρ : Rho} {b : Bool} {v : D}
@[simp] theorem x_LVE : LVE vs G (.ok (v, ρ)) = G v (wipeE ρ vs) := (rfl)
@[simp] theorem x_LTE : LTE l vs fe G (.ok (b, ρ)) = (b = true ∧ LVE vs G (eF l fe ρ)) := (rfl)
end
theorem lmE_go {l vs : List Nat} {ft : Gx} {fe : Ex} {h : β → D} (all : List β) (J : Nat → List D → Rho → Prop) (hs : ∀ i x acc ρ, all[i]? = some x → J i acc ρ → LTE l vs fe (fun g ρ' => J (i + 1) (acc ++ [g]) ρ') (bnd tsNo () (liftO (ft (h x) ρ)))) :
    ∀ (xs : List β) (n : Nat) (acc : List D) (ρ : Rho), all.drop n = xs → n + xs.length = all.length → acc.length + xs.length ≤ 16777216 → J n acc ρ → ∃ acc' ρ', lcLp l vs ft tsNo fe (xs.map h) ρ acc = .ok (acc', ρ') ∧ J all.length acc' ρ'
  | [], n, acc, ρ, _, hn, _, hj => ⟨acc, ρ, rfl, by rw [← hn]; exact hj⟩
  | x :: xs, n, acc, ρ, e, hn, hl, hj => by
    have hx : all[n]? = some x := by
      have := congrArg (fun l => l[0]?) e
      simpa using this
    have s := hs n x acc ρ hx hj
    have e' : all.drop (n + 1) = xs := by rw [← List.drop_drop, e]; rfl
    rw [List.length_cons] at hn hl
    have ih := fun acc' ρ' hl' => lmE_go (l := l) (vs := vs) (ft := ft) (fe := fe) (h := h) all J hs xs (n + 1) acc' ρ' e' (by omega) hl'
    rw [List.map_cons, lcLp]
    cases e1 : ft (h x) ρ with
    | none => rw [e1] at s; exact s.elim
    | some ρ1 =>
      rw [e1] at s
      have s : LTE l vs fe (fun g ρ' => J (n + 1) (acc ++ [g]) ρ') (tsNo ρ1) := s
      rw [liftO_some, bind_ok]
      cases e2 : tsNo ρ1 with
      | stuck => rw [e2] at s; exact s.elim
      | exc c' ρ' => rw [e2] at s; exact s.elim
      | ok p =>
        obtain ⟨b, ρ2⟩ := p
        rw [e2] at s
        obtain ⟨hb, s⟩ := s
        subst hb
        rw [bind_ok]
        cases e3 : eF l fe ρ2 with
        | stuck => rw [e3] at s; exact s.elim
        | exc c' ρ' => rw [e3] at s; exact s.elim
        | ok p =>
          obtain ⟨v, ρ3⟩ := p
          rw [e3] at s
          obtain ⟨a', ρ', h1, h2⟩ := ih (acc ++ [v]) (wipeE ρ3 vs) (by rw [List.length_append, List.length_singleton]; omega) s
          refine ⟨a', ρ', ?_, h2⟩
          rw [if_pos rfl, bind_ok, if_pos (by omega), h1]
theorem lmE_P {l vs : List Nat} {ft : Gx} {fe : Ex} {h : β → D} {k : List D × Rho → Out α} {w : Wit k} {P : Out α → Prop} {ds : List D} {ρ : Rho} (xs : List β) (J : Nat → List D → Rho → Prop) (hd : ds = xs.map h) (hl : xs.length ≤ 16777216) (h0 : J 0 [] ρ)
    (hs : ∀ i x acc ρ, xs[i]? = some x → J i acc ρ → LTE l vs fe (fun g ρ' => J (i + 1) (acc ++ [g]) ρ') (bnd tsNo () (liftO (ft (h x) ρ)))) (he : ∀ acc ρ, J xs.length acc ρ → P (k (acc, ρ))) : P (bnd k w (nox (lcLp l vs ft tsNo fe ds ρ []))) := by
  subst hd
  obtain ⟨a, ρ', h1, h2⟩ := lmE_go xs J hs xs 0 [] ρ rfl (by omega) (by simpa using hl) h0
  rw [h1]
  exact he a ρ' h2
theorem lmE_v {Q : α → Prop} {l vs : List Nat} {ft : Gx} {fe : Ex} {h : β → D} {k : List D × Rho → Out α} {w : Wit k} {ds : List D} {ρ : Rho} (xs : List β) (J : Nat → List D → Rho → Prop) (hd : ds = xs.map h) (hl : xs.length ≤ 16777216) (h0 : J 0 [] ρ)
    (hs : ∀ i x acc ρ, xs[i]? = some x → J i acc ρ → LTE l vs fe (fun g ρ' => J (i + 1) (acc ++ [g]) ρ') (bnd tsNo () (liftO (ft (h x) ρ)))) (he : ∀ acc ρ, J xs.length acc ρ → Ev (k (acc, ρ)) Q) : Ev (bnd k w (nox (lcLp l vs ft tsNo fe ds ρ []))) Q := lmE_P (P := (Ev · Q)) xs J hd hl h0 hs he
theorem lmE_a {J' : Rho → Prop} {k' : Fl → Out α} {P' : Out α → Prop} {l vs : List Nat} {ft : Gx} {fe : Ex} {h : β → D} {k : List D × Rho → Out Fl} {w : Wit k} {ds : List D} {ρ : Rho} (xs : List β) (J : Nat → List D → Rho → Prop) (hd : ds = xs.map h) (hl : xs.length ≤ 16777216) (h0 : J 0 [] ρ)
    (hs : ∀ i x acc ρ, xs[i]? = some x → J i acc ρ → LTE l vs fe (fun g ρ' => J (i + 1) (acc ++ [g]) ρ') (bnd tsNo () (liftO (ft (h x) ρ)))) (he : ∀ acc ρ, J xs.length acc ρ → Aft J' k' P' (k (acc, ρ))) : Aft J' k' P' (bnd k w (nox (lcLp l vs ft tsNo fe ds ρ []))) := lmE_P (P := Aft J' k' P') xs J hd hl h0 hs he
end
end PL

namespace K80
open PL PySem
def cat_BadNick : List (Str × Bool) := [("BadNick", true)]
def c_DIGITS : D := .str "0123456789"
def c_LETTERS : D := .str "abcdefghijklmnopqrstuvwxyz"
def c_MOST_MEMBERS : D := .int 6
def c_MOST_NAMES : D := .int 12
def c_MOST_ROWS : D := .int 24
def ise_ValueError : List (Str × Bool) := [("BadNick", true)]
def b__law_jar : Sx := sSeq (sSet [] 2 (eC (.int 0))) (sSeq (sSet [] 3 (eC (.int 0))) (sSeq (sIf (t2 dGt (eB dLen1 (aCons (eVar 0) (aNil))) (eC (.int 0))) (sSet [] 3 (eB dAbs (aCons (eB dInt1 (aCons (e2 dIx (eVar 0) (eC (.int 0))) (aNil))) (aNil)))) (sNil)) (sSeq (sIf (t2 dLt (eVar 1) (eB dLen1 (aCons (eVar 0) (aNil)))) (sSet [] 2 (eB dAbs (aCons (eB dInt1 (aCons (e2 dIx (eVar 0) (eVar 1)) (aNil))) (aNil)))) (sNil)) (sSeq (sSet [] 4 (e2 dAdd (e2 dAdd (e2 dAdd (e2 dMod (eB dInt1 (aCons (eVar 2) (aNil))) (eC (.int 2147483647))) (e2 dMul (eC (.int 31)) (e2 dMod (eB dInt1 (aCons (eVar 3) (aNil))) (eC (.int 2147483647))))) (e2 dMul (eC (.int 7919)) (eVar 1))) (eC (.int 1)))) (sRet [] (eLst [] (aCons (eVar 2) (aCons (eVar 4) (aCons (eC (.int 0)) (aCons (eB dInt1 (aCons (bE (t2 dGe (eVar 2) (e2 dPow (eC (.int 10)) (eC (.int 18))))) (aNil))) (aNil)))))))))))
def m__law_jar : Fn := runF 3 b__law_jar
def b__law_draw : Sx := sSeq (sIf (tAnd (t2 dEq (e2 dIx (eVar 0) (eC (.int 3))) (eC (.int 1))) (t2 dGt (e2 dIx (eVar 0) (eC (.int 0))) (eC (.int 0)))) (sSeq (sSet [0] 3 (e2 dMod (eB dInt1 (aCons (e2 dIx (eVar 0) (eC (.int 0))) (aNil))) (eVar 1))) (sSeq (sAsg [0] (e2 dDiv (e2 dIx (eVar 0) (eC (.int 0))) (eVar 1)) (gSb 0 (eC (.int 0)))) (sRet [0] (eVar 3)))) (sNil)) (sSeq (sAsg [0] (e2 dAdd (e2 dIx (eVar 0) (eC (.int 2))) (eC (.int 1))) (gSb 0 (eC (.int 2)))) (sSeq (sSet [0] 2 (e2 dMod (eB dInt1 (aCons (e2 dAdd (e2 dIx (eVar 0) (eC (.int 1))) (e2 dMul (eC (.int 40503)) (e2 dIx (eVar 0) (eC (.int 2))))) (aNil))) (eC (.int 2147483647)))) (sSeq (sSet [0] 2 (e2 dMod (eB dInt1 (aCons (e2 dAdd (e2 dMul (eVar 2) (eVar 2)) (e2 dMul (eC (.int 48271)) (e2 dIx (eVar 0) (eC (.int 2))))) (aNil))) (eC (.int 2147483629)))) (sSeq (sSet [0] 2 (e2 dMod (eB dInt1 (aCons (e2 dAdd (e2 dDiv (e2 dMul (eVar 2) (eVar 2)) (eC (.int 1024))) (eVar 2)) (aNil))) (eC (.int 2147483629)))) (sRet [0] (e2 dMod (eB dInt1 (aCons (e2 dDiv (eVar 2) (eC (.int 64))) (aNil))) (eVar 1)))))))
def m__law_draw : Fn1 := run1 0 2 b__law_draw
def b__law_fount : Sx := sRet [] (e2 dAdd (e2 dIx (eC (.str "mbyacwfkdhug")) (e2 dMod (eB dInt1 (aCons (e2 dAdd (eVar 0) (eVar 1)) (aNil))) (eC (.int 12)))) (eSl (eC (.str "3r0t")) (pNo) (pSo (eVar 2))))
def m__law_fount : Fn := runF 0 b__law_fount
def b__law_nicks_c1 : Ex := eCall [] 3 m__law_fount (aCons (eVar 13) (aCons (eVar 3) (aCons (eCall1 [] 2 0 (fun ds => noX (m__law_draw ds)) (aCons (eVar 1) (aCons (eC (.int 5)) (aNil)))) (aNil))))
def b__law_nicks_c2 : Ex := eCall1 [] 2 0 (fun ds => noX (m__law_draw ds)) (aCons (eVar 1) (aCons (eC (.int 2)) (aNil)))
def b__law_nicks_c3 : Ex := eVar 15
def b__law_nicks_f4 : Sx := sSeq (sSet [] 16 (eLc [] [15] (iVal [] (eVar 4)) (gNm [] 15) (t2 dNotIn (eVar 15) (eVar 12)) b__law_nicks_c3)) (sEx (eMl [] 12 mAppend (aCons (e2 dIx (eVar 16) (eCall1 [] 2 0 (fun ds => noX (m__law_draw ds)) (aCons (eVar 10) (aCons (eB dLen1 (aCons (eVar 16) (aNil))) (aNil))))) (aNil))))
def b__law_nicks_c5 : Ex := e2 dIx (eVar 7) (eVar 17)
def b__law_nicks_f6 : Sx := sSeq (sSet [] 10 (eCall [] 2 m__law_jar (aCons (eVar 0) (aCons (e2 dAdd (eC (.int 1)) (eVar 9)) (aNil))))) (sSeq (sSet [] 11 (e2 dIx (eLst [] (aCons (eC (.int 0)) (aCons (eC (.int 1)) (aCons (eC (.int 2)) (aCons (eC (.int 2)) (aCons (eC (.int 3)) (aCons (eC (.int 6)) (aNil)))))))) (eCall1 [] 2 0 (fun ds => noX (m__law_draw ds)) (aCons (eVar 10) (aCons (eC (.int 6)) (aNil)))))) (sSeq (sSet [] 12 (eLst [] (aNil))) (sSeq (sFor (iRg1 (aCons (eB dMin (aCons (eVar 11) (aCons (eVar 2) (aNil)))) (aNil))) (gNm [] 13) b__law_nicks_f4) (sSeq (sSet [] 14 (eCall1 [] 2 0 (fun ds => noX (m__law_draw ds)) (aCons (eVar 10) (aCons (eC (.int 2)) (aNil))))) (sSeq (sIf (t2 dGt (eVar 6) (eC (.int 0))) (sSet [] 14 (e2 dMod (eB dSum (aCons (eLc [] [17] (iRg1 (aCons (eVar 2) (aNil))) (gNm [] 17) (t2 dIn (e2 dIx (eVar 4) (eVar 17)) (eVar 12)) b__law_nicks_c5) (aNil))) (eC (.int 2)))) (sNil)) (sSeq (sIf (tAnd (t2 dEq (eVar 6) (eC (.int 2))) (t2 dEq (eCall1 [] 2 0 (fun ds => noX (m__law_draw ds)) (aCons (eVar 10) (aCons (eC (.int 8)) (aNil)))) (eC (.int 0)))) (sSet [] 14 (e2 dSub (eC (.int 1)) (eVar 14))) (sNil)) (sEx (eMl [] 8 mAppend (aCons (eTup [] (aCons (eB dTup1 (aCons (eVar 12) (aNil))) (aCons (eVar 14) (aNil)))) (aNil))))))))))
def b__law_nicks : Sx := sSeq (sSet [] 1 (eCall [] 2 m__law_jar (aCons (eVar 0) (aCons (eC (.int 0)) (aNil))))) (sSeq (sSet [] 2 (e2 dIx (eLst [] (aCons (eC (.int 12)) (aCons (eC (.int 0)) (aCons (eC (.int 1)) (aCons (eC (.int 2)) (aCons (eC (.int 3)) (aCons (eC (.int 4)) (aCons (eC (.int 5)) (aCons (eC (.int 6)) (aCons (eC (.int 7)) (aCons (eC (.int 8)) (aCons (eC (.int 11)) (aCons (eC (.int 5)) (aNil)))))))))))))) (eCall1 [] 2 0 (fun ds => noX (m__law_draw ds)) (aCons (eVar 1) (aCons (eC (.int 12)) (aNil)))))) (sSeq (sSet [] 3 (eCall1 [] 2 0 (fun ds => noX (m__law_draw ds)) (aCons (eVar 1) (aCons (eC (.int 12)) (aNil))))) (sSeq (sSet [] 4 (eB dTup1 (aCons (eLc [] [13] (iRg1 (aCons (eVar 2) (aNil))) (gNm [] 13) (tsNo) b__law_nicks_c1) (aNil)))) (sSeq (sSet [] 5 (e2 dIx (eLst [] (aCons (eCall1 [] 2 0 (fun ds => noX (m__law_draw ds)) (aCons (eVar 1) (aCons (eC (.int 6)) (aNil)))) (aCons (eCall1 [] 2 0 (fun ds => noX (m__law_draw ds)) (aCons (eVar 1) (aCons (eC (.int 25)) (aNil)))) (aCons (eVar 2) (aCons (eC (.int 24)) (aNil)))))) (eCall1 [] 2 0 (fun ds => noX (m__law_draw ds)) (aCons (eVar 1) (aCons (eC (.int 4)) (aNil)))))) (sSeq (sSet [] 6 (eCall1 [] 2 0 (fun ds => noX (m__law_draw ds)) (aCons (eVar 1) (aCons (eC (.int 3)) (aNil))))) (sSeq (sSet [] 7 (eLc [] [15] (iVal [] (eVar 4)) (gNm [] 15) (tsNo) b__law_nicks_c2)) (sSeq (sSet [] 8 (eLst [] (aNil))) (sSeq (sFor (iRg1 (aCons (eVar 5) (aNil))) (gNm [] 9) b__law_nicks_f6) (sRet [] (eTup [] (aCons (eVar 4) (aCons (eB dTup1 (aCons (eVar 8) (aNil))) (aNil)))))))))))))
def m__law_nicks : Fn := runF 17 b__law_nicks
def b__law_pairs_f1 : Sx := sSeq (sSet [] 6 (e2 dIx (eVar 1) (eCall1 [] 2 0 (fun ds => noX (m__law_draw ds)) (aCons (eVar 2) (aCons (eB dLen1 (aCons (eVar 1) (aNil))) (aNil)))))) (sSeq (sSet [] 7 (e2 dIx (eVar 1) (eCall1 [] 2 0 (fun ds => noX (m__law_draw ds)) (aCons (eVar 2) (aCons (eB dLen1 (aCons (eVar 1) (aNil))) (aNil)))))) (sSeq (sSet [] 8 (eCall1 [] 2 0 (fun ds => noX (m__law_draw ds)) (aCons (eVar 2) (aCons (eC (.int 2)) (aNil))))) (sSeq (sEx (eMl [] 3 mAppend (aCons (eTup [] (aCons (eVar 6) (aCons (eVar 7) (aCons (e2 dIx (eLst [] (aCons (eC (.str "same")) (aCons (eC (.str "differ")) (aNil)))) (eVar 8)) (aNil))))) (aNil)))) (sIf (t2 dEq (eVar 6) (eVar 7)) (sEx (eMl [] 4 mAppend (aCons (eTup [] (aCons (eTup [] (aNil)) (aCons (eVar 8) (aNil)))) (aNil)))) (sEx (eMl [] 4 mAppend (aCons (eTup [] (aCons (eTup [] (aCons (eVar 6) (aCons (eVar 7) (aNil)))) (aCons (eVar 8) (aNil)))) (aNil))))))))
def b__law_pairs : Sx := sSeq (sSet [] 2 (eCall [] 2 m__law_jar (aCons (eVar 0) (aCons (eC (.int 26)) (aNil))))) (sSeq (sSet [] 3 (eLst [] (aNil))) (sSeq (sSet [] 4 (eLst [] (aNil))) (sSeq (sIf (t2 dGt (eB dLen1 (aCons (eVar 1) (aNil))) (eC (.int 0))) (sFor (iRg1 (aCons (eCall1 [] 2 0 (fun ds => noX (m__law_draw ds)) (aCons (eVar 2) (aCons (eC (.int 9)) (aNil)))) (aNil))) (gNm [] 5) b__law_pairs_f1) (sNil)) (sRet [] (eLst [] (aCons (eB dTup1 (aCons (eVar 3) (aNil))) (aCons (eB dTup1 (aCons (eVar 4) (aNil))) (aNil))))))))
def m__law_pairs : Fn := runF 7 b__law_pairs
def b__law_wrong_f1 : Sx := sEx (eMl [] 3 mAppend (aCons (eTup [] (aCons (eTup [] (aCons (eC (.str "a")) (aNil))) (aCons (eTup [] (aCons (eTup [] (aCons (eTup [] (aNil)) (aCons (eC (.int 1)) (aNil)))) (aCons (eTup [] (aCons (eTup [] (aCons (eC (.str "a")) (aNil))) (aCons (eVar 4) (aNil)))) (aNil)))) (aNil)))) (aNil)))
def b__law_wrong : Sx := sSeq (sSet [] 2 (eTup [] (aCons (eC (.str "a")) (aCons (eC (.str "b")) (aCons (eC (.str "c")) (aCons (eC (.str "d")) (aCons (eC (.str "e")) (aCons (eC (.str "f")) (aCons (eC (.str "g")) (aNil)))))))))) (sSeq (sSet [] 3 (eLst [] (aCons (eC .non) (aCons (eTup [] (aCons (eVar 0) (aNil))) (aCons (eTup [] (aCons (eVar 0) (aCons (eVar 1) (aCons (eC (.int 0)) (aNil))))) (aCons (eLst [] (aCons (eVar 0) (aCons (eVar 1) (aNil)))) (aCons (eTup [] (aCons (eB dLst1 (aCons (eVar 0) (aNil))) (aCons (eVar 1) (aNil)))) (aCons (eTup [] (aCons (eVar 0) (aCons (eB dLst1 (aCons (eVar 1) (aNil))) (aNil)))) (aNil))))))))) (sSeq (sEx (eMl [] 3 mExtend (aCons (eLst [] (aCons (eTup [] (aCons (e2 dAdd (eVar 0) (eTup [] (aCons (eC (.str "Aa")) (aNil)))) (aCons (eVar 1) (aNil)))) (aCons (eTup [] (aCons (e2 dAdd (eVar 0) (eTup [] (aCons (eC (.str "")) (aNil)))) (aCons (eVar 1) (aNil)))) (aCons (eTup [] (aCons (e2 dAdd (eVar 0) (eTup [] (aCons (eC (.int 7)) (aNil)))) (aCons (eVar 1) (aNil)))) (aCons (eTup [] (aCons (eVar 0) (aCons (e2 dAdd (eVar 1) (eTup [] (aCons (eTup [] (aNil)) (aCons (eC (.int 0)) (aNil))))) (aNil)))) (aNil)))))) (aNil)))) (sSeq (sEx (eMl [] 3 mExtend (aCons (eLst [] (aCons (eTup [] (aCons (e2 dAdd (eSl (eVar 0) (pNo) (pSo (eC (.int 11)))) (eTup [] (aCons (eC (.str "x")) (aCons (eC (.str "x")) (aNil))))) (aCons (eVar 1) (aNil)))) (aCons (eTup [] (aCons (e2 dAdd (eVar 2) (eTup [] (aCons (eC (.str "h")) (aCons (eC (.str "i")) (aCons (eC (.str "j")) (aCons (eC (.str "k")) (aCons (eC (.str "l")) (aCons (eC (.str "m")) (aNil))))))))) (aCons (eTup [] (aNil)) (aNil)))) (aNil)))) (aNil)))) (sSeq (sEx (eMl [] 3 mExtend (aCons (eLst [] (aCons (eTup [] (aCons (eVar 2) (aCons (eTup [] (aCons (eTup [] (aCons (eVar 2) (aCons (eC (.int 0)) (aNil)))) (aNil))) (aNil)))) (aCons (eTup [] (aCons (eVar 0) (aCons (eTup [] (aCons (eTup [] (aCons (eTup [] (aCons (eC (.str "zz")) (aNil))) (aCons (eC (.int 0)) (aNil)))) (aNil))) (aNil)))) (aCons (eTup [] (aCons (eTup [] (aCons (eC (.str "a")) (aCons (eC (.str "b")) (aNil)))) (aCons (eTup [] (aCons (eTup [] (aCons (eTup [] (aCons (eC (.str "a")) (aCons (eC (.str "a")) (aNil)))) (aCons (eC (.int 0)) (aNil)))) (aNil))) (aNil)))) (aNil))))) (aNil)))) (sSeq (sEx (eMl [] 3 mExtend (aCons (eLst [] (aCons (eTup [] (aCons (eTup [] (aCons (eC (.str "a")) (aNil))) (aCons (e2 dMul (eTup [] (aCons (eTup [] (aCons (eTup [] (aNil)) (aCons (eC (.int 0)) (aNil)))) (aNil))) (eC (.int 25))) (aNil)))) (aCons (eTup [] (aCons (eTup [] (aCons (eC (.str "a")) (aNil))) (aCons (eTup [] (aCons (eTup [] (aCons (eLst [] (aCons (eC (.str "a")) (aNil))) (aCons (eC (.int 0)) (aNil)))) (aNil))) (aNil)))) (aCons (eTup [] (aCons (eTup [] (aCons (eC (.str "a")) (aNil))) (aCons (eTup [] (aCons (eTup [] (aCons (eTup [] (aCons (eC (.str "a")) (aNil))) (aCons (eC (.int 0)) (aCons (eC (.int 0)) (aNil))))) (aNil))) (aNil)))) (aNil))))) (aNil)))) (sSeq (sFor (iVal [] (eLst [] (aCons (eC (.int 2)) (aCons (e1 dNeg (eC (.int 1))) (aCons (eC (.bl true)) (aCons (eC .non) (aNil))))))) (gNm [] 4) b__law_wrong_f1) (sRet [] (eVar 3))))))))
def m__law_wrong : Fn := runF 3 b__law_wrong
def b__law_same_one : Sx := sSeq (sIf (tOr (t2 dIs (eVar 0) (eC .non)) (t2 dIs (eVar 1) (eC .non))) (sRet [] (eAnd (bE (t2 dIs (eVar 0) (eC .non))) (bE (t2 dIs (eVar 1) (eC .non))))) (sNil)) (sSeq (sIf (tOr (tIsi (isT .bool) (eVar 0)) (tIsi (isT .bool) (eVar 1))) (sRet [] (eAnd (bE (tIsi (isT .bool) (eVar 0))) (eAnd (bE (tIsi (isT .bool) (eVar 1))) (bE (t2 dEq (eVar 0) (eVar 1)))))) (sNil)) (sSeq (sIf (tAnd (tIsi (isT .int) (eVar 0)) (tIsi (isT .int) (eVar 1))) (sRet [] (bE (t2 dEq (eVar 0) (eVar 1)))) (sNil)) (sRet [] (eAnd (bE (tIsi (isT .str) (eVar 0))) (eAnd (bE (tIsi (isT .str) (eVar 1))) (bE (t2 dEq (eVar 0) (eVar 1))))))))
def m__law_same_one : Fn := runF 0 b__law_same_one
def b__law_same_c1 : Ex := eLst [] (aCons (e2 dIx (eVar 5) (eVar 7)) (aCons (e2 dIx (eVar 6) (eVar 7)) (aNil)))
def b__law_same_f2 : Sx := sSeq (sIf (t2 dEq (eB dLen1 (aCons (eVar 2) (aNil))) (eC (.int 0))) (sRet [] (eC (.bl true))) (sNil)) (sSeq (sSet [] 4 (eMl [] 2 mPop aNil)) (sSeq (sSet [] 5 (e2 dIx (eVar 4) (eC (.int 0)))) (sSeq (sSet [] 6 (e2 dIx (eVar 4) (eC (.int 1)))) (sIf (tAnd (tIsi (isT .tuple) (eVar 5)) (tIsi (isT .tuple) (eVar 6))) (sSeq (sIf (t2 dNe (eB dLen1 (aCons (eVar 5) (aNil))) (eB dLen1 (aCons (eVar 6) (aNil)))) (sRet [] (eC (.bl false))) (sNil)) (sEx (eMl [] 2 mExtend (aCons (eLc [] [7] (iRg1 (aCons (eB dLen1 (aCons (eVar 5) (aNil))) (aNil))) (gNm [] 7) (tsNo) b__law_same_c1) (aNil))))) (sIf (tOr (tIsi (isT .tuple) (eVar 5)) (tOr (tIsi (isT .tuple) (eVar 6)) (tNot (tTru (eCall [] 2 m__law_same_one (aCons (eVar 5) (aCons (eVar 6) (aNil)))))))) (sRet [] (eC (.bl false))) (sNil))))))
def b__law_same : Sx := sSeq (sSet [] 2 (eLst [] (aCons (eLst [] (aCons (eVar 0) (aCons (eVar 1) (aNil)))) (aNil)))) (sSeq (sFor (iRg1 (aCons (eC (.int 20000)) (aNil))) (gNm [] 3) b__law_same_f2) (sRet [] (eC (.bl false))))
def m__law_same : Fn := runF 6 b__law_same
def b_is_tuple_of : Sx := sRet [] (eAnd (bE (tIsi (isT .tuple) (eVar 0))) (bE (tCh dLe dLe (eVar 1) (eB dLen1 (aCons (eVar 0) (aNil))) (eVar 2))))
def m_is_tuple_of : Fn := runF 0 b_is_tuple_of
def b_is_name_f1 : Sx := sIf (tAnd (t2 dNotIn (eVar 1) (eC c_LETTERS)) (t2 dNotIn (eVar 1) (eC c_DIGITS))) (sRet [] (eC (.bl false))) (sNil)
def b_is_name : Sx := sSeq (sIf (tNot (tIsi (isT .str) (eVar 0))) (sRet [] (eC (.bl false))) (sNil)) (sSeq (sIf (tOr (t2 dLt (eB dLen1 (aCons (eVar 0) (aNil))) (eC (.int 1))) (t2 dGt (eB dLen1 (aCons (eVar 0) (aNil))) (eC (.int 8)))) (sRet [] (eC (.bl false))) (sNil)) (sSeq (sIf (t2 dNotIn (e2 dIx (eVar 0) (eC (.int 0))) (eC c_LETTERS)) (sRet [] (eC (.bl false))) (sNil)) (sSeq (sFor (iVal [] (eVar 0)) (gNm [] 1) b_is_name_f1) (sRet [] (eC (.bl true))))))
def m_is_name : Fn := runF 1 b_is_name
def b_is_names_f1 : Sx := sSeq (sIf (tOr (tNot (tTru (eCall [] 1 m_is_name (aCons (eVar 4) (aNil))))) (t2 dIn (eVar 4) (eVar 3))) (sRet [] (eC (.bl false))) (sNil)) (sAsg [] (eC (.bl true)) (gSb 3 (eVar 4)))
def b_is_names : Sx := sSeq (sIf (tNot (tTru (eCall [] 3 m_is_tuple_of (aCons (eVar 0) (aCons (eVar 1) (aCons (eVar 2) (aNil))))))) (sRet [] (eC (.bl false))) (sNil)) (sSeq (sSet [] 3 (eDNew false)) (sSeq (sFor (iVal [] (eVar 0)) (gNm [] 4) b_is_names_f1) (sRet [] (eC (.bl true)))))
def m_is_names : Fn := runF 2 b_is_names
def b_is_whole : Sx := sRet [] (eAnd (bE (tIsi (isT .int) (eVar 0))) (eNot (bE (tIsi (isT .bool) (eVar 0)))))
def m_is_whole : Fn := runF 0 b_is_whole
def b_is_whole_in : Sx := sRet [] (eAnd (eCall [] 1 m_is_whole (aCons (eVar 0) (aNil))) (bE (tCh dLe dLe (eVar 1) (eVar 0) (eVar 2))))
def m_is_whole_in : Fn := runF 0 b_is_whole_in
def b_check_nicks_f1 : Sx := sIf (t2 dNotIn (eVar 4) (eVar 2)) (sRaise "BadNick") (sNil)
def b_check_nicks_f2 : Sx := sSeq (sIf (tOr (tNot (tTru (eCall [] 3 m_is_tuple_of (aCons (eVar 1) (aCons (eC (.int 2)) (aCons (eC (.int 2)) (aNil))))))) (tNot (tTru (eCall [] 3 m_is_names (aCons (e2 dIx (eVar 1) (eC (.int 0))) (aCons (eC (.int 0)) (aCons (eC c_MOST_MEMBERS) (aNil)))))))) (sRaise "BadNick") (sNil)) (sSeq (sFor (iVal [] (e2 dIx (eVar 1) (eC (.int 0)))) (gNm [] 4) b_check_nicks_f1) (sIf (tNot (tTru (eCall [] 3 m_is_whole_in (aCons (e2 dIx (eVar 1) (eC (.int 1))) (aCons (eC (.int 0)) (aCons (eC (.int 1)) (aNil))))))) (sRaise "BadNick") (sNil)))
def b_check_nicks : Sx := sSeq (sIf (tNot (tTru (eCall [] 3 m_is_tuple_of (aCons (eVar 0) (aCons (eC (.int 2)) (aCons (eC (.int 2)) (aNil))))))) (sRaise "BadNick") (sNil)) (sSeq (sAsg [] (eVar 0) (gTp 2 (gsCons (gNm [] 2) (gsCons (gNm [] 3) (gsNil))))) (sSeq (sIf (tNot (tTru (eCall [] 3 m_is_names (aCons (eVar 2) (aCons (eC (.int 0)) (aCons (eC c_MOST_NAMES) (aNil))))))) (sRaise "BadNick") (sNil)) (sSeq (sIf (tNot (tTru (eCall [] 3 m_is_tuple_of (aCons (eVar 3) (aCons (eC (.int 0)) (aCons (eC c_MOST_ROWS) (aNil))))))) (sRaise "BadNick") (sNil)) (sFor (iVal [] (eVar 3)) (gNm [] 1) b_check_nicks_f2))))
def m_check_nicks : Fn := runF 4 b_check_nicks
def b__law_is : Sx := sRet [] (eAnd (bE (tIsi (isT .bool) (eVar 0))) (bE (t2 dEq (eVar 0) (eVar 1))))
def m__law_is : Fn := runF 0 b__law_is
def b_same_single : Sx := sSeq (sIf (tOr (t2 dIs (eVar 0) (eC .non)) (t2 dIs (eVar 1) (eC .non))) (sRet [] (eAnd (bE (t2 dIs (eVar 0) (eC .non))) (bE (t2 dIs (eVar 1) (eC .non))))) (sNil)) (sSeq (sIf (tOr (tIsi (isT .bool) (eVar 0)) (tIsi (isT .bool) (eVar 1))) (sRet [] (eAnd (bE (tIsi (isT .bool) (eVar 0))) (eAnd (bE (tIsi (isT .bool) (eVar 1))) (bE (t2 dEq (eVar 0) (eVar 1)))))) (sNil)) (sSeq (sIf (tOr (tIsi (isT .int) (eVar 0)) (tIsi (isT .int) (eVar 1))) (sRet [] (eAnd (bE (tIsi (isT .int) (eVar 0))) (eAnd (bE (tIsi (isT .int) (eVar 1))) (bE (t2 dEq (eVar 0) (eVar 1)))))) (sNil)) (sRet [] (eAnd (bE (tIsi (isT .str) (eVar 0))) (eAnd (bE (tIsi (isT .str) (eVar 1))) (bE (t2 dEq (eVar 0) (eVar 1))))))))
def m_same_single : Fn := runF 0 b_same_single
def b_same_f1 : Sx := sEx (eMl [] 2 mAppend (aCons (eTup [] (aCons (e2 dIx (eVar 3) (eVar 5)) (aCons (e2 dIx (eVar 4) (eVar 5)) (aNil)))) (aNil)))
def b_same_t2 : Tx := tTru (eVar 2)
def b_same_w2 : Sx := sSeq (sAsg [] (eMl [] 2 mPop aNil) (gTp 2 (gsCons (gNm [] 3) (gsCons (gNm [] 4) (gsNil))))) (sIf (tOr (tIsi (isT .tuple) (eVar 3)) (tIsi (isT .tuple) (eVar 4))) (sSeq (sIf (tOr (tNot (tIsi (isT .tuple) (eVar 3))) (tNot (tIsi (isT .tuple) (eVar 4)))) (sRet [] (eC (.bl false))) (sNil)) (sSeq (sIf (t2 dNe (eB dLen1 (aCons (eVar 3) (aNil))) (eB dLen1 (aCons (eVar 4) (aNil)))) (sRet [] (eC (.bl false))) (sNil)) (sFor (iRg1 (aCons (eB dLen1 (aCons (eVar 3) (aNil))) (aNil))) (gNm [] 5) b_same_f1))) (sIf (tNot (tTru (eCall [] 2 m_same_single (aCons (eVar 3) (aCons (eVar 4) (aNil)))))) (sRet [] (eC (.bl false))) (sNil)))
def b_same : Sx := sSeq (sSet [] 2 (eLst [] (aCons (eTup [] (aCons (eVar 0) (aCons (eVar 1) (aNil)))) (aNil)))) (sSeq (sWh b_same_t2 b_same_w2 1000000000) (sRet [] (eC (.bl true))))
def m_same : Fn := runF 4 b_same
def b_nick_row : Sx := sSeq (sIf (t2 dEq (eVar 0) (eVar 1)) (sRet [] (eTup [] (aCons (eTup [] (aNil)) (aCons (eVar 2) (aNil))))) (sNil)) (sRet [] (eTup [] (aCons (eTup [] (aCons (eVar 0) (aCons (eVar 1) (aNil)))) (aCons (eVar 2) (aNil)))))
def m_nick_row : Fn := runF 0 b_nick_row
def b_nick_rows_f1 : Sx := sSeq (sIf (tOr (tNot (tTru (eCall [] 3 m_is_tuple_of (aCons (eVar 2) (aCons (eC (.int 3)) (aCons (eC (.int 3)) (aNil))))))) (tOr (tNot (tTru (eCall [] 1 m_is_name (aCons (e2 dIx (eVar 2) (eC (.int 0))) (aNil))))) (tNot (tTru (eCall [] 1 m_is_name (aCons (e2 dIx (eVar 2) (eC (.int 1))) (aNil))))))) (sRaise "BadNick") (sNil)) (sIf (tTru (eCall [] 2 m_same (aCons (e2 dIx (eVar 2) (eC (.int 2))) (aCons (eC (.str "same")) (aNil))))) (sEx (eMl [] 1 mAppend (aCons (eCall [] 3 m_nick_row (aCons (e2 dIx (eVar 2) (eC (.int 0))) (aCons (e2 dIx (eVar 2) (eC (.int 1))) (aCons (eC (.int 0)) (aNil))))) (aNil)))) (sIf (tTru (eCall [] 2 m_same (aCons (e2 dIx (eVar 2) (eC (.int 2))) (aCons (eC (.str "differ")) (aNil))))) (sEx (eMl [] 1 mAppend (aCons (eCall [] 3 m_nick_row (aCons (e2 dIx (eVar 2) (eC (.int 0))) (aCons (e2 dIx (eVar 2) (eC (.int 1))) (aCons (eC (.int 1)) (aNil))))) (aNil)))) (sRaise "BadNick")))
def b_nick_rows : Sx := sSeq (sIf (tNot (tIsi (isT .tuple) (eVar 0))) (sRaise "BadNick") (sNil)) (sSeq (sSet [] 1 (eLst [] (aNil))) (sSeq (sFor (iVal [] (eVar 0)) (gNm [] 2) b_nick_rows_f1) (sRet [] (eB dTup1 (aCons (eVar 1) (aNil))))))
def m_nick_rows : Fn := runF 2 b_nick_rows
def b__law_pairs_refused : Sx := sSeq (sTry 0 (cat_BadNick) (hC (.bl true)) (sEx (eCall [] 1 m_nick_rows (aCons (eVar 0) (aNil))))) (sRet [] (eC (.bl false)))
def m__law_pairs_refused : Fn := runF 0 b__law_pairs_refused
def b_is_nicking_f1 : Sx := sIf (tNot (tTru (eCall [] 3 m_is_whole_in (aCons (eVar 2) (aCons (eC (.int 0)) (aCons (eC (.int 1)) (aNil))))))) (sRet [] (eC (.bl false))) (sNil)
def b_is_nicking : Sx := sSeq (sIf (tNot (tTru (eCall [] 3 m_is_tuple_of (aCons (eVar 1) (aCons (eB dLen1 (aCons (eVar 0) (aNil))) (aCons (eB dLen1 (aCons (eVar 0) (aNil))) (aNil))))))) (sRet [] (eC (.bl false))) (sNil)) (sSeq (sFor (iVal [] (eVar 1)) (gNm [] 2) b_is_nicking_f1) (sRet [] (eC (.bl true))))
def m_is_nicking : Fn := runF 1 b_is_nicking
def b_keeps_k1 : Ex := eVar 7
def b_keeps_c1 : Ex := eVar 8
def b_keeps_c2 : Ex := e2 dIx (eVar 2) (eVar 7)
def b_keeps_f3 : Sx := sIf (t2 dNe (e2 dMod (eB dSum (aCons (eLc [] [7] (iVal [] (eVar 5)) (gNm [] 7) (tsNo) b_keeps_c2) (aNil))) (eC (.int 2))) (eVar 6)) (sRet [] (eC (.bl false))) (sNil)
def b_keeps : Sx := sSeq (sEx (eCall [] 1 m_check_nicks (aCons (eVar 0) (aNil)))) (sSeq (sAsg [] (eVar 0) (gTp 2 (gsCons (gNm [] 3) (gsCons (gNm [] 4) (gsNil))))) (sSeq (sIf (tNot (tTru (eCall [] 2 m_is_nicking (aCons (eVar 3) (aCons (eVar 1) (aNil)))))) (sRet [] (eC (.bl false))) (sNil)) (sSeq (sSet [] 2 (eDc [] [7, 8] (iZp [] (aCons (eVar 3) (aCons (eVar 1) (aNil)))) (gTp 2 (gsCons (gNm [] 7) (gsCons (gNm [] 8) (gsNil)))) (tsNo) b_keeps_k1 b_keeps_c1)) (sSeq (sFor (iVal [] (eVar 4)) (gTp 2 (gsCons (gNm [] 5) (gsCons (gNm [] 6) (gsNil)))) b_keeps_f3) (sRet [] (eC (.bl true)))))))
def m_keeps : Fn := runF 7 b_keeps
def b__law_keeps_c1 : Ex := e2 dIx (eVar 2) (eVar 5)
def b__law_keeps_f2 : Sx := sIf (t2 dNe (e2 dMod (eB dSum (aCons (eLc [] [5] (iRg1 (aCons (eB dLen1 (aCons (eVar 0) (aNil))) (aNil))) (gNm [] 5) (t2 dIn (e2 dIx (eVar 0) (eVar 5)) (eVar 3)) b__law_keeps_c1) (aNil))) (eC (.int 2))) (eVar 4)) (sRet [] (eC (.bl false))) (sNil)
def b__law_keeps : Sx := sSeq (sFor (iVal [] (eVar 1)) (gTp 2 (gsCons (gNm [] 3) (gsCons (gNm [] 4) (gsNil)))) b__law_keeps_f2) (sRet [] (eC (.bl true)))
def m__law_keeps : Fn := runF 3 b__law_keeps
def b_added_c1 : Ex := e2 dBxor (eVar 2) (eVar 3)
def b_added : Sx := sRet [] (eLc [] [2, 3] (iZp [] (aCons (eVar 0) (aCons (eVar 1) (aNil)))) (gTp 2 (gsCons (gNm [] 2) (gsCons (gNm [] 3) (gsNil)))) (tsNo) b_added_c1)
def m_added : Fn := runF 2 b_added
def b_without_leads_f1 : Sx := sIf (tAnd (t2 dIn (eVar 3) (eVar 1)) (t2 dEq (e2 dIx (eVar 0) (eVar 3)) (eC (.int 1)))) (sSet [] 0 (eCall [] 2 m_added (aCons (eVar 0) (aCons (e2 dIx (eVar 1) (eVar 3)) (aNil))))) (sNil)
def b_without_leads : Sx := sSeq (sFor (iRg1 (aCons (eVar 2) (aNil))) (gNm [] 3) b_without_leads_f1) (sRet [] (eVar 0))
def m_without_leads : Fn := runF 1 b_without_leads
def b_last_name : Sx := sSeq (sStk) (sRet [] (e1 dNeg (eC (.int 1))))
def m_last_name : Fn := runF 1 b_last_name
def b_line_of_c1 : Ex := eB dInt1 (aCons (bE (t2 dIn (eVar 7) (eVar 4))) (aNil))
def b_line_of_c2 : Ex := eB dInt1 (aCons (bE (t2 dEq (eVar 6) (eVar 1))) (aNil))
def b_line_of : Sx := sSeq (sAsg [] (eVar 0) (gTp 2 (gsCons (gNm [] 2) (gsCons (gNm [] 3) (gsNil))))) (sSeq (sAsg [] (e2 dIx (eVar 3) (eVar 1)) (gTp 2 (gsCons (gNm [] 4) (gsCons (gNm [] 5) (gsNil))))) (sRet [] (e2 dAdd (e2 dAdd (eLc [] [7] (iVal [] (eVar 2)) (gNm [] 7) (tsNo) b_line_of_c1) (eLst [] (aCons (eVar 5) (aNil)))) (eLc [] [6] (iRg1 (aCons (eB dLen1 (aCons (eVar 3) (aNil))) (aNil))) (gNm [] 6) (tsNo) b_line_of_c2))))
def m_line_of : Fn := runF 6 b_line_of
def b_solved_f1 : Sx := sIf (tAnd (t2 dIn (eVar 8) (eVar 2)) (t2 dEq (e2 dIx (e2 dIx (eVar 2) (eVar 8)) (eVar 7)) (eC (.int 1)))) (sAsg [] (eCall [] 2 m_added (aCons (e2 dIx (eVar 2) (eVar 8)) (aCons (eVar 6) (aNil)))) (gSb 2 (eVar 8))) (sNil)
def b_solved_f2 : Sx := sSeq (sSet [] 6 (eCall [] 3 m_without_leads (aCons (eCall [] 2 m_line_of (aCons (eVar 0) (aCons (eVar 3) (aNil)))) (aCons (eVar 2) (aCons (eVar 1) (aNil)))))) (sSeq (sSet [] 7 (eCall [] 2 m_last_name (aCons (eVar 6) (aCons (eVar 1) (aNil))))) (sSeq (sIf (tAnd (t2 dEq (eVar 7) (e1 dNeg (eC (.int 1)))) (t2 dEq (e2 dIx (eVar 6) (eVar 1)) (eC (.int 1)))) (sRet [] (eTup [] (aCons (eVar 2) (aCons (eVar 6) (aNil))))) (sNil)) (sIf (t2 dNe (eVar 7) (e1 dNeg (eC (.int 1)))) (sSeq (sFor (iRg1 (aCons (eVar 1) (aNil))) (gNm [] 8) b_solved_f1) (sAsg [] (eVar 6) (gSb 2 (eVar 7)))) (sNil))))
def b_solved : Sx := sSeq (sAsg [] (eVar 0) (gTp 2 (gsCons (gNm [] 4) (gsCons (gNm [] 5) (gsNil))))) (sSeq (sSet [] 1 (eB dLen1 (aCons (eVar 4) (aNil)))) (sSeq (sSet [] 2 (eDNew false)) (sSeq (sFor (iRg1 (aCons (eB dLen1 (aCons (eVar 5) (aNil))) (aNil))) (gNm [] 3) b_solved_f2) (sRet [] (eTup [] (aCons (eVar 2) (aCons (eC .non) (aNil))))))))
def m_solved : Fn := runF 8 b_solved
def b_settle_nicks_c1 : Ex := eVar 9
def b_settle_nicks_c2 : Ex := eC (.int 0)
def b_settle_nicks_f3 : Sx := sIf (t2 dIn (eVar 3) (eVar 6)) (sAsg [] (e2 dIx (e2 dIx (eVar 6) (eVar 3)) (eVar 1)) (gSb 2 (eVar 3))) (sNil)
def b_settle_nicks : Sx := sSeq (sEx (eCall [] 1 m_check_nicks (aCons (eVar 0) (aNil)))) (sSeq (sAsg [] (eVar 0) (gTp 2 (gsCons (gNm [] 4) (gsCons (gNm [] 5) (gsNil))))) (sSeq (sSet [] 1 (eB dLen1 (aCons (eVar 4) (aNil)))) (sSeq (sAsg [] (eCall [] 1 m_solved (aCons (eVar 0) (aNil))) (gTp 2 (gsCons (gNm [] 6) (gsCons (gNm [] 7) (gsNil))))) (sSeq (sIf (t2 dIsNot (eVar 7) (eC .non)) (sRet [] (eTup [] (aCons (eC (.str "no")) (aCons (eB dTup1 (aCons (eLc [] [9] (iRg1 (aCons (eB dLen1 (aCons (eVar 5) (aNil))) (aNil))) (gNm [] 9) (t2 dEq (e2 dIx (eVar 7) (e2 dAdd (e2 dAdd (eVar 1) (eC (.int 1))) (eVar 9))) (eC (.int 1))) b_settle_nicks_c1) (aNil))) (aNil))))) (sNil)) (sSeq (sSet [] 2 (eLc [] [8] (iVal [] (eVar 4)) (gNm [] 8) (tsNo) b_settle_nicks_c2)) (sSeq (sFor (iRg1 (aCons (eVar 1) (aNil))) (gNm [] 3) b_settle_nicks_f3) (sRet [] (eTup [] (aCons (eC (.str "yes")) (aCons (eB dTup1 (aCons (eVar 2) (aNil))) (aNil)))))))))))
def m_settle_nicks : Fn := runF 9 b_settle_nicks
def b_is_rising_f1 : Sx := sIf (tNot (tTru (eCall [] 1 m_is_whole (aCons (eVar 1) (aNil))))) (sRet [] (eC (.bl false))) (sNil)
def b_is_rising_f2 : Sx := sIf (t2 dGe (e2 dIx (eVar 0) (e2 dSub (eVar 2) (eC (.int 1)))) (e2 dIx (eVar 0) (eVar 2))) (sRet [] (eC (.bl false))) (sNil)
def b_is_rising : Sx := sSeq (sIf (tNot (tIsi (isT .tuple) (eVar 0))) (sRet [] (eC (.bl false))) (sNil)) (sSeq (sFor (iVal [] (eVar 0)) (gNm [] 1) b_is_rising_f1) (sSeq (sFor (iRg2 (aCons (eC (.int 1)) (aCons (eB dLen1 (aCons (eVar 0) (aNil))) (aNil)))) (gNm [] 2) b_is_rising_f2) (sRet [] (eC (.bl true)))))
def m_is_rising : Fn := runF 2 b_is_rising
def b_is_clash_c1 : Ex := eB dInt1 (aCons (bE (t2 dIn (eVar 2) (e2 dIx (e2 dIx (eVar 4) (eVar 5)) (eC (.int 0))))) (aNil))
def b_is_clash_f2 : Sx := sIf (t2 dNe (e2 dMod (eB dSum (aCons (eLc [] [5] (iVal [] (eVar 1)) (gNm [] 5) (tsNo) b_is_clash_c1) (aNil))) (eC (.int 2))) (eC (.int 0))) (sRet [] (eC (.bl false))) (sNil)
def b_is_clash_c3 : Ex := e2 dIx (e2 dIx (eVar 4) (eVar 5)) (eC (.int 1))
def b_is_clash : Sx := sSeq (sAsg [] (eVar 0) (gTp 2 (gsCons (gNm [] 3) (gsCons (gNm [] 4) (gsNil))))) (sSeq (sIf (tOr (tNot (tTru (eCall [] 1 m_is_rising (aCons (eVar 1) (aNil))))) (t2 dEq (eB dLen1 (aCons (eVar 1) (aNil))) (eC (.int 0)))) (sRet [] (eC (.bl false))) (sNil)) (sSeq (sIf (tOr (t2 dLt (e2 dIx (eVar 1) (eC (.int 0))) (eC (.int 0))) (t2 dGe (e2 dIx (eVar 1) (e1 dNeg (eC (.int 1)))) (eB dLen1 (aCons (eVar 4) (aNil))))) (sRet [] (eC (.bl false))) (sNil)) (sSeq (sFor (iVal [] (eVar 3)) (gNm [] 2) b_is_clash_f2) (sRet [] (bE (t2 dEq (e2 dMod (eB dSum (aCons (eLc [] [5] (iVal [] (eVar 1)) (gNm [] 5) (tsNo) b_is_clash_c3) (aNil))) (eC (.int 2))) (eC (.int 1))))))))
def m_is_clash : Fn := runF 4 b_is_clash
def b_is_answer : Sx := sSeq (sIf (tOr (tNot (tTru (eCall [] 3 m_is_tuple_of (aCons (eVar 0) (aCons (eC (.int 2)) (aCons (eC (.int 2)) (aNil))))))) (tNot (tIsi (isT .str) (e2 dIx (eVar 0) (eC (.int 0)))))) (sRet [] (eC (.bl false))) (sNil)) (sRet [] (eOr (bE (t2 dEq (e2 dIx (eVar 0) (eC (.int 0))) (eC (.str "yes")))) (bE (t2 dEq (e2 dIx (eVar 0) (eC (.int 0))) (eC (.str "no"))))))
def m_is_answer : Fn := runF 0 b_is_answer
def b_upholds_nicks : Sx := sSeq (sEx (eCall [] 1 m_check_nicks (aCons (eVar 0) (aNil)))) (sSeq (sIf (tNot (tTru (eCall [] 1 m_is_answer (aCons (eVar 1) (aNil))))) (sRet [] (eC (.bl false))) (sNil)) (sSeq (sIf (t2 dEq (e2 dIx (eVar 1) (eC (.int 0))) (eC (.str "yes"))) (sRet [] (eCall [] 2 m_keeps (aCons (eVar 0) (aCons (e2 dIx (eVar 1) (eC (.int 1))) (aNil))))) (sNil)) (sRet [] (eCall [] 2 m_is_clash (aCons (eVar 0) (aCons (e2 dIx (eVar 1) (eC (.int 1))) (aNil)))))))
def m_upholds_nicks : Fn := runF 0 b_upholds_nicks
def b_check_among : Sx := sIf (tOr (tNot (tTru (eCall [] 1 m_is_name (aCons (eVar 1) (aNil))))) (t2 dNotIn (eVar 1) (eVar 0))) (sRaise "BadNick") (sNil)
def m_check_among : Fn := runF 0 b_check_among
def b_in_free_names_c1 : Ex := eB dInt1 (aCons (bE (t2 dEq (eVar 4) (eVar 1))) (aNil))
def b_in_free_names : Sx := sSeq (sIf (t2 dNotIn (eVar 1) (eVar 0)) (sRet [] (e2 dAdd (eLc [] [4] (iRg1 (aCons (eVar 2) (aNil))) (gNm [] 4) (tsNo) b_in_free_names_c1) (eLst [] (aCons (eC (.int 0)) (aNil))))) (sNil)) (sSeq (sSet [] 3 (eSl (e2 dIx (eVar 0) (eVar 1)) (pNo) (pSo (e2 dAdd (eVar 2) (eC (.int 1)))))) (sSeq (sAsg [] (eC (.int 0)) (gSb 3 (eVar 1))) (sRet [] (eVar 3))))
def m_in_free_names : Fn := runF 2 b_in_free_names
def b_told_apart : Sx := sSeq (sEx (eCall [] 1 m_check_nicks (aCons (eVar 0) (aNil)))) (sSeq (sAsg [] (eVar 0) (gTp 2 (gsCons (gNm [] 5) (gsCons (gNm [] 6) (gsNil))))) (sSeq (sEx (eCall [] 2 m_check_among (aCons (eVar 5) (aCons (eVar 1) (aNil))))) (sSeq (sEx (eCall [] 2 m_check_among (aCons (eVar 5) (aCons (eVar 2) (aNil))))) (sSeq (sSet [] 3 (eB dLen1 (aCons (eVar 5) (aNil)))) (sSeq (sAsg [] (eCall [] 1 m_solved (aCons (eVar 0) (aNil))) (gTp 2 (gsCons (gNm [] 7) (gsCons (gNm [] 8) (gsNil))))) (sSeq (sIf (t2 dIsNot (eVar 8) (eC .non)) (sRaise "BadNick") (sNil)) (sSeq (sStk) (sSeq (sIf (t2 dIn (eC (.int 1)) (eSl (eVar 4) (pNo) (pSo (eVar 3)))) (sRet [] (eC (.str "open"))) (sNil)) (sSeq (sIf (t2 dEq (e2 dIx (eVar 4) (eVar 3)) (eC (.int 0))) (sRet [] (eC (.str "same"))) (sNil)) (sRet [] (eC (.str "differ"))))))))))))
def m_told_apart : Fn := runF 6 b_told_apart
def b_freedom : Sx := sSeq (sEx (eCall [] 1 m_check_nicks (aCons (eVar 0) (aNil)))) (sSeq (sAsg [] (eCall [] 1 m_solved (aCons (eVar 0) (aNil))) (gTp 2 (gsCons (gNm [] 1) (gsCons (gNm [] 2) (gsNil))))) (sSeq (sIf (t2 dIsNot (eVar 2) (eC .non)) (sRet [] (eC .non)) (sNil)) (sRet [] (e2 dSub (eB dLen1 (aCons (e2 dIx (eVar 0) (eC (.int 0))) (aNil))) (eB dLen1 (aCons (eVar 1) (aNil)))))))
def m_freedom : Fn := runF 2 b_freedom
def b__law_refuses : Sx := sSeq (sTry 3 (cat_BadNick) (hIs ise_ValueError) (sIf (t2 dEq (eVar 0) (eC (.int 0))) (sEx (eCall [] 1 m_check_nicks (aCons (eVar 1) (aNil)))) (sIf (t2 dEq (eVar 0) (eC (.int 1))) (sEx (eCall [] 2 m_keeps (aCons (eVar 1) (aCons (eTup [] (aNil)) (aNil))))) (sIf (t2 dEq (eVar 0) (eC (.int 2))) (sEx (eCall [] 1 m_settle_nicks (aCons (eVar 1) (aNil)))) (sIf (t2 dEq (eVar 0) (eC (.int 3))) (sEx (eCall [] 2 m_upholds_nicks (aCons (eVar 1) (aCons (eTup [] (aCons (eC (.str "yes")) (aCons (eTup [] (aNil)) (aNil)))) (aNil))))) (sIf (t2 dEq (eVar 0) (eC (.int 4))) (sEx (eCall [] 3 m_told_apart (aCons (eVar 1) (aCons (eC (.str "a")) (aCons (eC (.str "a")) (aNil)))))) (sEx (eCall [] 1 m_freedom (aCons (eVar 1) (aNil)))))))))) (sRet [] (eC (.bl false)))
def m__law_refuses : Fn := runF 1 b__law_refuses
def b_law_c1 : Ex := eCall1 [] 2 0 (fun ds => noX (m__law_draw ds)) (aCons (eVar 2) (aCons (eC (.int 2)) (aNil)))
def b_law_f2 : Sx := sIf (t2 dIsNot (eCall [] 2 m_keeps (aCons (eTup [] (aCons (eVar 8) (aCons (eTup [] (aNil)) (aNil)))) (aCons (eVar 5) (aNil)))) (eC (.bl false))) (sRet [] (eC (.bl false))) (sNil)
def b_law_f3 : Sx := sSeq (sSet [] 10 (eB dTup1 (aCons (eLc [] [12] (iVal [] (eVar 8)) (gNm [] 12) (tsNo) b_law_c1) (aNil)))) (sSeq (sIf (tNot (tTru (eCall [] 2 m__law_is (aCons (eCall [] 2 m_keeps (aCons (eVar 1) (aCons (eVar 10) (aNil)))) (aCons (eCall [] 3 m__law_keeps (aCons (eVar 8) (aCons (eVar 9) (aCons (eVar 10) (aNil))))) (aNil)))))) (sRet [] (eC (.bl false))) (sNil)) (sSeq (sSet [] 11 (eTup [] (aCons (eVar 8) (aCons (eSl (eVar 9) (pNo) (pSo (eCall1 [] 2 0 (fun ds => noX (m__law_draw ds)) (aCons (eVar 2) (aCons (eC (.int 4)) (aNil)))))) (aNil))))) (sSeq (sIf (tNot (tTru (eCall [] 2 m__law_is (aCons (eCall [] 2 m_keeps (aCons (eVar 11) (aCons (eVar 10) (aNil)))) (aCons (eCall [] 3 m__law_keeps (aCons (eVar 8) (aCons (e2 dIx (eVar 11) (eC (.int 1))) (aCons (eVar 10) (aNil))))) (aNil)))))) (sRet [] (eC (.bl false))) (sNil)) (sFor (iVal [] (eLst [] (aCons (eB dLst1 (aCons (eVar 10) (aNil))) (aCons (e2 dAdd (eVar 10) (eTup [] (aCons (eC (.int 0)) (aNil)))) (aCons (eC .non) (aCons (eC (.int 0)) (aCons (e2 dAdd (eSl (eVar 10) (pSo (eC (.int 1))) (pNo)) (eTup [] (aCons (eC (.int 2)) (aNil)))) (aCons (e2 dAdd (eSl (eVar 10) (pSo (eC (.int 1))) (pNo)) (eTup [] (aCons (eC (.bl true)) (aNil)))) (aCons (e2 dAdd (eSl (eVar 10) (pSo (eC (.int 1))) (pNo)) (eTup [] (aCons (e1 dNeg (eC (.int 2))) (aNil)))) (aNil)))))))))) (gNm [] 5) b_law_f2))))
def b_law_f4 : Sx := sIf (tOr (tNot (tTru (eCall [] 1 m__law_pairs_refused (aCons (e2 dAdd (e2 dIx (eVar 4) (eC (.int 0))) (eTup [] (aCons (eVar 5) (aNil)))) (aNil))))) (tNot (tTru (eCall [] 1 m__law_pairs_refused (aCons (e2 dAdd (eTup [] (aCons (eVar 5) (aNil))) (e2 dIx (eVar 4) (eC (.int 0)))) (aNil)))))) (sRet [] (eC (.bl false))) (sNil)
def b_law_f5 : Sx := sIf (tOr (tNot (tTru (eCall [] 2 m__law_refuses (aCons (eC (.int 0)) (aCons (e2 dIx (eVar 6) (eVar 7)) (aNil)))))) (tNot (tTru (eCall [] 2 m__law_refuses (aCons (e2 dAdd (eC (.int 1)) (e2 dMod (eB dInt1 (aCons (e2 dAdd (eVar 7) (eB dLen1 (aCons (eVar 9) (aNil)))) (aNil))) (eC (.int 5)))) (aCons (e2 dIx (eVar 6) (eVar 7)) (aNil))))))) (sRet [] (eC (.bl false))) (sNil)
def b_law : Sx := sSeq (sSet [] 1 (eCall [] 1 m__law_nicks (aCons (eVar 0) (aNil)))) (sSeq (sAsg [] (eVar 1) (gTp 2 (gsCons (gNm [] 8) (gsCons (gNm [] 9) (gsNil))))) (sSeq (sIf (tOr (t2 dIsNot (eCall [] 1 m_check_nicks (aCons (eVar 1) (aNil))) (eC .non)) (t2 dIsNot (eCall [] 1 m_check_nicks (aCons (eTup [] (aCons (e2 dAdd (eSl (eVar 8) (pNo) (pSo (eC (.int 11)))) (eTup [] (aCons (eC (.str "zz")) (aNil)))) (aCons (e2 dMul (eTup [] (aCons (eTup [] (aCons (eTup [] (aNil)) (aCons (eC (.int 1)) (aNil)))) (aNil))) (eC (.int 24))) (aNil)))) (aNil))) (eC .non))) (sRet [] (eC (.bl false))) (sNil)) (sSeq (sSet [] 2 (eCall [] 2 m__law_jar (aCons (eVar 0) (aCons (eC (.int 25)) (aNil))))) (sSeq (sFor (iRg1 (aCons (eC (.int 8)) (aNil))) (gNm [] 3) b_law_f3) (sSeq (sSet [] 4 (eCall [] 2 m__law_pairs (aCons (eVar 0) (aCons (eVar 8) (aNil))))) (sSeq (sIf (tNot (tTru (eCall [] 2 m__law_same (aCons (eCall [] 1 m_nick_rows (aCons (e2 dIx (eVar 4) (eC (.int 0))) (aNil))) (aCons (e2 dIx (eVar 4) (eC (.int 1))) (aNil)))))) (sRet [] (eC (.bl false))) (sNil)) (sSeq (sFor (iVal [] (eLst [] (aCons (eTup [] (aCons (eC (.str "a")) (aCons (eC (.str "b")) (aNil)))) (aCons (eTup [] (aCons (eC (.str "a")) (aCons (eC (.str "b")) (aCons (eC (.str "equal")) (aNil))))) (aCons (eTup [] (aCons (eC (.str "a")) (aCons (eC (.str "")) (aCons (eC (.str "same")) (aNil))))) (aCons (eTup [] (aCons (eC (.int 1)) (aCons (eC (.str "b")) (aCons (eC (.str "same")) (aNil))))) (aCons (eLst [] (aCons (eC (.str "a")) (aCons (eC (.str "b")) (aCons (eC (.str "same")) (aNil))))) (aCons (eC .non) (aNil))))))))) (gNm [] 5) b_law_f4) (sSeq (sIf (tOr (tNot (tTru (eCall [] 1 m__law_pairs_refused (aCons (eB dLst1 (aCons (e2 dIx (eVar 4) (eC (.int 0))) (aNil))) (aNil))))) (tNot (tTru (eCall [] 1 m__law_pairs_refused (aCons (eC (.str "ab")) (aNil)))))) (sRet [] (eC (.bl false))) (sNil)) (sSeq (sSet [] 6 (eCall [] 2 m__law_wrong (aCons (eVar 8) (aCons (eVar 9) (aNil))))) (sSeq (sFor (iRg1 (aCons (eB dLen1 (aCons (eVar 6) (aNil))) (aNil))) (gNm [] 7) b_law_f5) (sRet [] (eC (.bl true)))))))))))))
def m_law : Fn := runF 12 b_law
end K80

namespace K80
open PL PySem PySem.Spec PyProof.Rows L2
def top (i : Nat) : Stmt := PySem.Challenge.pw_typefoundry_k80_nickings_kept.main.body.getD i (.Pass ⟨0, 0, 0, 0⟩)
abbrev st__law_jar : Stmt := top 38
abbrev st__law_draw : Stmt := top 39
abbrev st__law_fount : Stmt := top 42
abbrev st__law_nicks : Stmt := top 43
abbrev st__law_pairs : Stmt := top 49
abbrev st__law_wrong : Stmt := top 48
abbrev st__law_same_one : Stmt := top 40
abbrev st__law_same : Stmt := top 41
abbrev st_is_tuple_of : Stmt := top 9
abbrev st_is_name : Stmt := top 8
abbrev st_is_names : Stmt := top 10
abbrev st_is_whole : Stmt := top 6
abbrev st_is_whole_in : Stmt := top 7
abbrev st_check_nicks : Stmt := top 19
abbrev st__law_is : Stmt := top 45
abbrev st_same_single : Stmt := top 12
abbrev st_same : Stmt := top 13
abbrev st_nick_row : Stmt := top 22
abbrev st_nick_rows : Stmt := top 23
abbrev st__law_pairs_refused : Stmt := top 47
abbrev st_is_nicking : Stmt := top 20
abbrev st_keeps : Stmt := top 21
abbrev st__law_keeps : Stmt := top 44
abbrev st_added : Stmt := top 26
abbrev st_without_leads : Stmt := top 28
abbrev st_last_name : Stmt := top 27
abbrev st_line_of : Stmt := top 25
abbrev st_solved : Stmt := top 29
abbrev st_settle_nicks : Stmt := top 30
abbrev st_is_rising : Stmt := top 11
abbrev st_is_clash : Stmt := top 31
abbrev st_is_answer : Stmt := top 14
abbrev st_upholds_nicks : Stmt := top 32
abbrev st_check_among : Stmt := top 33
abbrev st_in_free_names : Stmt := top 34
abbrev st_told_apart : Stmt := top 35
abbrev st_freedom : Stmt := top 36
abbrev st__law_refuses : Stmt := top 46
abbrev st_law : Stmt := top 50
structure Txt (K : PySem.W.Frag) (mg : Str → Option Value) : Prop where
  cat_BadNick : Cat0 K mg "BadNick" cat_BadNick
  con_DIGITS : Con0 K mg "DIGITS" c_DIGITS
  con_LETTERS : Con0 K mg "LETTERS" c_LETTERS
  con_MOST_MEMBERS : Con0 K mg "MOST_MEMBERS" c_MOST_MEMBERS
  con_MOST_NAMES : Con0 K mg "MOST_NAMES" c_MOST_NAMES
  con_MOST_ROWS : Con0 K mg "MOST_ROWS" c_MOST_ROWS
  ise_ValueError : IsE0 K mg "ValueError" ise_ValueError
  no_abs : mg "abs" = none
  no_bool : mg "bool" = none
  no_int : mg "int" = none
  no_isinstance : mg "isinstance" = none
  no_len : mg "len" = none
  no_list : mg "list" = none
  no_min : mg "min" = none
  no_range : mg "range" = none
  no_str : mg "str" = none
  no_sum : mg "sum" = none
  no_tuple : mg "tuple" = none
  no_zip : mg "zip" = none
  exc_BadNick : Exc0 K mg "BadNick"
  fn__law_jar : FnT K mg "_law_jar" st__law_jar ["script", "k"]
  fn__law_draw : FnT K mg "_law_draw" st__law_draw ["jar", "size"]
  fn__law_fount : FnT K mg "_law_fount" st__law_fount ["k", "shift", "tail"]
  fn__law_nicks : FnT K mg "_law_nicks" st__law_nicks ["script"]
  fn__law_pairs : FnT K mg "_law_pairs" st__law_pairs ["script", "names"]
  fn__law_wrong : FnT K mg "_law_wrong" st__law_wrong ["names", "rows"]
  fn__law_same_one : FnT K mg "_law_same_one" st__law_same_one ["one", "other"]
  fn__law_same : FnT K mg "_law_same" st__law_same ["first", "second"]
  fn_is_tuple_of : FnT K mg "is_tuple_of" st_is_tuple_of ["value", "low", "high"]
  fn_is_name : FnT K mg "is_name" st_is_name ["value"]
  fn_is_names : FnT K mg "is_names" st_is_names ["value", "low", "high"]
  fn_is_whole : FnT K mg "is_whole" st_is_whole ["value"]
  fn_is_whole_in : FnT K mg "is_whole_in" st_is_whole_in ["value", "low", "high"]
  fn_check_nicks : FnT K mg "check_nicks" st_check_nicks ["subject"]
  fn__law_is : FnT K mg "_law_is" st__law_is ["value", "due"]
  fn_same_single : FnT K mg "same_single" st_same_single ["first", "second"]
  fn_same : FnT K mg "same" st_same ["first", "second"]
  fn_nick_row : FnT K mg "nick_row" st_nick_row ["a", "b", "parity"]
  fn_nick_rows : FnT K mg "nick_rows" st_nick_rows ["pairs"]
  fn__law_pairs_refused : FnT K mg "_law_pairs_refused" st__law_pairs_refused ["pairs"]
  fn_is_nicking : FnT K mg "is_nicking" st_is_nicking ["names", "bits"]
  fn_keeps : FnT K mg "keeps" st_keeps ["subject", "bits"]
  fn__law_keeps : FnT K mg "_law_keeps" st__law_keeps ["names", "rows", "bits"]
  fn_added : FnT K mg "added" st_added ["first", "second"]
  fn_without_leads : FnT K mg "without_leads" st_without_leads ["line", "leads", "count"]
  fn_last_name : FnT K mg "last_name" st_last_name ["line", "count"]
  fn_line_of : FnT K mg "line_of" st_line_of ["subject", "index"]
  fn_solved : FnT K mg "solved" st_solved ["subject"]
  fn_settle_nicks : FnT K mg "settle_nicks" st_settle_nicks ["subject"]
  fn_is_rising : FnT K mg "is_rising" st_is_rising ["value"]
  fn_is_clash : FnT K mg "is_clash" st_is_clash ["subject", "paper"]
  fn_is_answer : FnT K mg "is_answer" st_is_answer ["value"]
  fn_upholds_nicks : FnT K mg "upholds_nicks" st_upholds_nicks ["subject", "answer"]
  fn_check_among : FnT K mg "check_among" st_check_among ["names", "name"]
  fn_in_free_names : FnT K mg "in_free_names" st_in_free_names ["leads", "at", "count"]
  fn_told_apart : FnT K mg "told_apart" st_told_apart ["subject", "a", "b"]
  fn_freedom : FnT K mg "freedom" st_freedom ["subject"]
  fn__law_refuses : FnT K mg "_law_refuses" st__law_refuses ["way", "subject"]
  fn_law : FnT K mg "law" st_law ["script"]
section
variable {P : Program} {w : World} {K : PySem.W.Frag} {mg : Str → Option Value} {base : Heap}
theorem sc__law_jar : FnScope ["script", "k", "own", "first", "seed"] ["script", "k"] (defScope st__law_jar) := ⟨rfl, rfl, rfl, by decide +kernel, rfl, by decide +kernel, by decide +kernel⟩
theorem nd__law_jar : (["script", "k", "own", "first", "seed"] : List Str).Nodup := sc__law_jar.nd
theorem kd__law_jar : (defScope st__law_jar).kind = .function := rfl
theorem lk__law_jar_abs : (defScope st__law_jar).names.lookup ("abs" : Str) = some .globalImplicit := by decide +kernel
theorem lk__law_jar_first : (defScope st__law_jar).names.lookup ("first" : Str) = some .local := by decide +kernel
theorem lk__law_jar_int : (defScope st__law_jar).names.lookup ("int" : Str) = some .globalImplicit := by decide +kernel
theorem lk__law_jar_k : (defScope st__law_jar).names.lookup ("k" : Str) = some .local := by decide +kernel
theorem lk__law_jar_len : (defScope st__law_jar).names.lookup ("len" : Str) = some .globalImplicit := by decide +kernel
theorem lk__law_jar_own : (defScope st__law_jar).names.lookup ("own" : Str) = some .local := by decide +kernel
theorem lk__law_jar_script : (defScope st__law_jar).names.lookup ("script" : Str) = some .local := by decide +kernel
theorem lk__law_jar_seed : (defScope st__law_jar).names.lookup ("seed" : Str) = some .local := by decide +kernel
theorem cal__law_jar (T : Txt K mg) : Cal0 P w K mg base 1 "_law_jar" 2 m__law_jar := by
  refine Cal0.of (k := 0) (m := 3) (f := b__law_jar) T.fn__law_jar sc__law_jar rfl rfl fun H0 => ?_
  exact (ss_cons (s_set ⟨nd__law_jar, rfl, Or.inl lk__law_jar_own, Or.inl rfl⟩ e_int) (ss_cons (s_set ⟨nd__law_jar, rfl, Or.inl lk__law_jar_first, Or.inl rfl⟩ e_int) (ss_cons (s_if (t_cmp (fun _ A => o_gt A) (e_cb (fun _ A => c_len1 A) T.no_len rfl (a_cons (e_var (i := 0) rfl (Or.inl lk__law_jar_script)) a_nil) lk__law_jar_len) e_int) (ss_one (s_set ⟨nd__law_jar, rfl, Or.inl lk__law_jar_first, Or.inl rfl⟩ (e_cb (fun _ A => c_abs A) T.no_abs rfl (a_cons (e_cty (fun _ A => c_int A) T.no_int rfl (a_cons (e_ix (e_var (i := 0) rfl (Or.inl lk__law_jar_script)) e_int) a_nil) lk__law_jar_int) a_nil) lk__law_jar_abs))) ss_nil) (ss_cons (s_if (t_cmp (fun _ A => o_lt A) (e_var (i := 1) rfl (Or.inl lk__law_jar_k)) (e_cb (fun _ A => c_len1 A) T.no_len rfl (a_cons (e_var (i := 0) rfl (Or.inl lk__law_jar_script)) a_nil) lk__law_jar_len)) (ss_one (s_set ⟨nd__law_jar, rfl, Or.inl lk__law_jar_own, Or.inl rfl⟩ (e_cb (fun _ A => c_abs A) T.no_abs rfl (a_cons (e_cty (fun _ A => c_int A) T.no_int rfl (a_cons (e_ix (e_var (i := 0) rfl (Or.inl lk__law_jar_script)) (e_var (i := 1) rfl (Or.inl lk__law_jar_k))) a_nil) lk__law_jar_int) a_nil) lk__law_jar_abs))) ss_nil) (ss_cons (s_set ⟨nd__law_jar, rfl, Or.inl lk__law_jar_seed, Or.inl rfl⟩ (e_bin (fun _ A => o_add A) (e_bin (fun _ A => o_add A) (e_bin (fun _ A => o_add A) (e_bin (fun _ A => o_mod A) (e_cty (fun _ A => c_int A) T.no_int rfl (a_cons (e_var (i := 2) rfl (Or.inl lk__law_jar_own)) a_nil) lk__law_jar_int) e_int) (e_bin (fun _ A => o_mul A) e_int (e_bin (fun _ A => o_mod A) (e_cty (fun _ A => c_int A) T.no_int rfl (a_cons (e_var (i := 3) rfl (Or.inl lk__law_jar_first)) a_nil) lk__law_jar_int) e_int))) (e_bin (fun _ A => o_mul A) e_int (e_var (i := 1) rfl (Or.inl lk__law_jar_k)))) e_int)) (ss_one (s_ret (e_lst (a_cons (e_var (i := 2) rfl (Or.inl lk__law_jar_own)) (a_cons (e_var (i := 4) rfl (Or.inl lk__law_jar_seed)) (a_cons e_int (a_cons (e_cty (fun _ A => c_int A) T.no_int rfl (a_cons (e_cmp (fun _ A => o_ge A) (e_var (i := 2) rfl (Or.inl lk__law_jar_own)) (e_bin (fun _ A => o_pow A) e_int e_int)) a_nil) lk__law_jar_int) a_nil))))))))))))
theorem sc__law_draw : FnScope ["jar", "size", "t", "digit"] ["jar", "size"] (defScope st__law_draw) := ⟨rfl, rfl, rfl, by decide +kernel, rfl, by decide +kernel, by decide +kernel⟩
theorem nd__law_draw : (["jar", "size", "t", "digit"] : List Str).Nodup := sc__law_draw.nd
theorem kd__law_draw : (defScope st__law_draw).kind = .function := rfl
theorem lk__law_draw_digit : (defScope st__law_draw).names.lookup ("digit" : Str) = some .local := by decide +kernel
theorem lk__law_draw_int : (defScope st__law_draw).names.lookup ("int" : Str) = some .globalImplicit := by decide +kernel
theorem lk__law_draw_jar : (defScope st__law_draw).names.lookup ("jar" : Str) = some .local := by decide +kernel
theorem lk__law_draw_size : (defScope st__law_draw).names.lookup ("size" : Str) = some .local := by decide +kernel
theorem lk__law_draw_t : (defScope st__law_draw).names.lookup ("t" : Str) = some .local := by decide +kernel
theorem cal__law_draw (T : Txt K mg) : Cal01 P w K mg base 1 "_law_draw" 2 0 m__law_draw := by
  refine Cal01.of (k := 0) (m := 2) (f := b__law_draw) T.fn__law_draw sc__law_draw rfl rfl fun H0 ad => ?_
  exact (ss_cons (s_if (t_w (w_and (t_cmp (fun _ A => o_eq A) (e_ix (e_var (i := 0) rfl (Or.inl lk__law_draw_jar)) e_int) e_int) (w_and1 (t_cmp (fun _ A => o_gt A) (e_ix (e_var (i := 0) rfl (Or.inl lk__law_draw_jar)) e_int) e_int)))) (ss_cons (s_set ⟨nd__law_draw, rfl, Or.inl lk__law_draw_digit, Or.inl rfl⟩ (e_bin (fun _ A => o_mod A) (e_cty (fun _ A => c_int A) T.no_int rfl (a_cons (e_ix (e_var (i := 0) rfl (Or.inl lk__law_draw_jar)) e_int) a_nil) lk__law_draw_int) (e_var (i := 1) rfl (Or.inl lk__law_draw_size)))) (ss_cons (s_asg (e_bin (fun _ A => o_div A) (e_ix (e_var (i := 0) rfl (Or.inl lk__law_draw_jar)) e_int) (e_var (i := 1) rfl (Or.inl lk__law_draw_size))) (g_sub (i := 0) e_int rfl (Or.inl lk__law_draw_jar))) (ss_one (s_ret (e_var (i := 3) rfl (Or.inl lk__law_draw_digit)))))) ss_nil) (ss_cons (s_asg (e_bin (fun _ A => o_add A) (e_ix (e_var (i := 0) rfl (Or.inl lk__law_draw_jar)) e_int) e_int) (g_sub (i := 0) e_int rfl (Or.inl lk__law_draw_jar))) (ss_cons (s_set ⟨nd__law_draw, rfl, Or.inl lk__law_draw_t, Or.inl rfl⟩ (e_bin (fun _ A => o_mod A) (e_cty (fun _ A => c_int A) T.no_int rfl (a_cons (e_bin (fun _ A => o_add A) (e_ix (e_var (i := 0) rfl (Or.inl lk__law_draw_jar)) e_int) (e_bin (fun _ A => o_mul A) e_int (e_ix (e_var (i := 0) rfl (Or.inl lk__law_draw_jar)) e_int))) a_nil) lk__law_draw_int) e_int)) (ss_cons (s_set ⟨nd__law_draw, rfl, Or.inl lk__law_draw_t, Or.inl rfl⟩ (e_bin (fun _ A => o_mod A) (e_cty (fun _ A => c_int A) T.no_int rfl (a_cons (e_bin (fun _ A => o_add A) (e_bin (fun _ A => o_mul A) (e_var (i := 2) rfl (Or.inl lk__law_draw_t)) (e_var (i := 2) rfl (Or.inl lk__law_draw_t))) (e_bin (fun _ A => o_mul A) e_int (e_ix (e_var (i := 0) rfl (Or.inl lk__law_draw_jar)) e_int))) a_nil) lk__law_draw_int) e_int)) (ss_cons (s_set ⟨nd__law_draw, rfl, Or.inl lk__law_draw_t, Or.inl rfl⟩ (e_bin (fun _ A => o_mod A) (e_cty (fun _ A => c_int A) T.no_int rfl (a_cons (e_bin (fun _ A => o_add A) (e_bin (fun _ A => o_div A) (e_bin (fun _ A => o_mul A) (e_var (i := 2) rfl (Or.inl lk__law_draw_t)) (e_var (i := 2) rfl (Or.inl lk__law_draw_t))) e_int) (e_var (i := 2) rfl (Or.inl lk__law_draw_t))) a_nil) lk__law_draw_int) e_int)) (ss_one (s_ret (e_bin (fun _ A => o_mod A) (e_cty (fun _ A => c_int A) T.no_int rfl (a_cons (e_bin (fun _ A => o_div A) (e_var (i := 2) rfl (Or.inl lk__law_draw_t)) e_int) a_nil) lk__law_draw_int) (e_var (i := 1) rfl (Or.inl lk__law_draw_size))))))))))
theorem sc__law_fount : FnScope ["k", "shift", "tail"] ["k", "shift", "tail"] (defScope st__law_fount) := ⟨rfl, rfl, rfl, by decide +kernel, rfl, by decide +kernel, by decide +kernel⟩
theorem nd__law_fount : (["k", "shift", "tail"] : List Str).Nodup := sc__law_fount.nd
theorem kd__law_fount : (defScope st__law_fount).kind = .function := rfl
theorem lk__law_fount_int : (defScope st__law_fount).names.lookup ("int" : Str) = some .globalImplicit := by decide +kernel
theorem lk__law_fount_k : (defScope st__law_fount).names.lookup ("k" : Str) = some .local := by decide +kernel
theorem lk__law_fount_shift : (defScope st__law_fount).names.lookup ("shift" : Str) = some .local := by decide +kernel
theorem lk__law_fount_tail : (defScope st__law_fount).names.lookup ("tail" : Str) = some .local := by decide +kernel
theorem cal__law_fount (T : Txt K mg) : Cal0 P w K mg base 1 "_law_fount" 3 m__law_fount := by
  refine Cal0.of (k := 0) (m := 0) (f := b__law_fount) T.fn__law_fount sc__law_fount rfl rfl fun H0 => ?_
  exact (ss_one (s_ret (e_bin (fun _ A => o_add A) (e_ix e_str (e_bin (fun _ A => o_mod A) (e_cty (fun _ A => c_int A) T.no_int rfl (a_cons (e_bin (fun _ A => o_add A) (e_var (i := 0) rfl (Or.inl lk__law_fount_k)) (e_var (i := 1) rfl (Or.inl lk__law_fount_shift))) a_nil) lk__law_fount_int) e_int)) (e_sl e_str p_no (p_so (e_var (i := 2) rfl (Or.inl lk__law_fount_tail)))))))
theorem sc__law_nicks : FnScope ["script", "jar", "size", "shift", "names", "count", "kept", "bits", "rows", "turn", "own", "wide", "members", "k", "parity", "name", "free", "at"] ["script"] (defScope st__law_nicks) := ⟨rfl, rfl, rfl, by decide +kernel, rfl, by decide +kernel, by decide +kernel⟩
theorem nd__law_nicks : (["script", "jar", "size", "shift", "names", "count", "kept", "bits", "rows", "turn", "own", "wide", "members", "k", "parity", "name", "free", "at"] : List Str).Nodup := sc__law_nicks.nd
theorem kd__law_nicks : (defScope st__law_nicks).kind = .function := rfl
theorem lk__law_nicks__law_draw : (defScope st__law_nicks).names.lookup ("_law_draw" : Str) = some .globalImplicit := by decide +kernel
theorem lk__law_nicks__law_jar : (defScope st__law_nicks).names.lookup ("_law_jar" : Str) = some .globalImplicit := by decide +kernel
theorem lk__law_nicks_bits : (defScope st__law_nicks).names.lookup ("bits" : Str) = some .cell := by decide +kernel
theorem lk__law_nicks_count : (defScope st__law_nicks).names.lookup ("count" : Str) = some .local := by decide +kernel
theorem lk__law_nicks_free : (defScope st__law_nicks).names.lookup ("free" : Str) = some .local := by decide +kernel
theorem lk__law_nicks_jar : (defScope st__law_nicks).names.lookup ("jar" : Str) = some .cell := by decide +kernel
theorem lk__law_nicks_k : (defScope st__law_nicks).names.lookup ("k" : Str) = some .local := by decide +kernel
theorem lk__law_nicks_kept : (defScope st__law_nicks).names.lookup ("kept" : Str) = some .local := by decide +kernel
theorem lk__law_nicks_len : (defScope st__law_nicks).names.lookup ("len" : Str) = some .globalImplicit := by decide +kernel
theorem lk__law_nicks_members : (defScope st__law_nicks).names.lookup ("members" : Str) = some .cell := by decide +kernel
theorem lk__law_nicks_min : (defScope st__law_nicks).names.lookup ("min" : Str) = some .globalImplicit := by decide +kernel
theorem lk__law_nicks_names : (defScope st__law_nicks).names.lookup ("names" : Str) = some .cell := by decide +kernel
theorem lk__law_nicks_own : (defScope st__law_nicks).names.lookup ("own" : Str) = some .local := by decide +kernel
theorem lk__law_nicks_parity : (defScope st__law_nicks).names.lookup ("parity" : Str) = some .local := by decide +kernel
theorem lk__law_nicks_range : (defScope st__law_nicks).names.lookup ("range" : Str) = some .globalImplicit := by decide +kernel
theorem lk__law_nicks_rows : (defScope st__law_nicks).names.lookup ("rows" : Str) = some .local := by decide +kernel
theorem lk__law_nicks_script : (defScope st__law_nicks).names.lookup ("script" : Str) = some .local := by decide +kernel
theorem lk__law_nicks_shift : (defScope st__law_nicks).names.lookup ("shift" : Str) = some .cell := by decide +kernel
theorem lk__law_nicks_size : (defScope st__law_nicks).names.lookup ("size" : Str) = some .local := by decide +kernel
theorem lk__law_nicks_sum : (defScope st__law_nicks).names.lookup ("sum" : Str) = some .globalImplicit := by decide +kernel
theorem lk__law_nicks_tuple : (defScope st__law_nicks).names.lookup ("tuple" : Str) = some .globalImplicit := by decide +kernel
theorem lk__law_nicks_turn : (defScope st__law_nicks).names.lookup ("turn" : Str) = some .local := by decide +kernel
theorem lk__law_nicks_wide : (defScope st__law_nicks).names.lookup ("wide" : Str) = some .local := by decide +kernel
theorem cal__law_nicks (T : Txt K mg) : Cal0 P w K mg base 2 "_law_nicks" 1 m__law_nicks := by
  refine Cal0.of (k := 1) (m := 17) (f := b__law_nicks) T.fn__law_nicks sc__law_nicks rfl rfl fun H0 => ?_
  have h__law_jar : Cal ⟨P, w, K, mg, base, ["script", "jar", "size", "shift", "names", "count", "kept", "bits", "rows", "turn", "own", "wide", "members", "k", "parity", "name", "free", "at"], defScope st__law_nicks, fun _ => true, 1, H0, []⟩ "_law_jar" 2 m__law_jar := (cal__law_jar T).cal (by decide)
  have h__law_draw : Cal1 ⟨P, w, K, mg, base, ["script", "jar", "size", "shift", "names", "count", "kept", "bits", "rows", "turn", "own", "wide", "members", "k", "parity", "name", "free", "at"], defScope st__law_nicks, fun _ => true, 1, H0, []⟩ "_law_draw" 2 0 m__law_draw := (cal__law_draw T).cal (by decide)
  have h__law_fount : Cal ⟨P, w, K, mg, base, ["script", "jar", "size", "shift", "names", "count", "kept", "bits", "rows", "turn", "own", "wide", "members", "k", "parity", "name", "free", "at"], defScope st__law_nicks, fun _ => true, 1, H0, []⟩ "_law_fount" 3 m__law_fount := (cal__law_fount T).cal (by decide)
  exact (ss_cons (s_set ⟨nd__law_nicks, rfl, Or.inr lk__law_nicks_jar, Or.inl rfl⟩ (e_call h__law_jar (a_cons (e_var (i := 0) rfl (Or.inl lk__law_nicks_script)) (a_cons e_int a_nil)) lk__law_nicks__law_jar)) (ss_cons (s_set ⟨nd__law_nicks, rfl, Or.inl lk__law_nicks_size, Or.inl rfl⟩ (e_ix (e_lst (a_cons e_int (a_cons e_int (a_cons e_int (a_cons e_int (a_cons e_int (a_cons e_int (a_cons e_int (a_cons e_int (a_cons e_int (a_cons e_int (a_cons e_int (a_cons e_int a_nil))))))))))))) (e_call1 h__law_draw (a_cons (e_var (i := 1) rfl (Or.inr (Or.inl lk__law_nicks_jar))) (a_cons e_int a_nil)) lk__law_nicks__law_draw))) (ss_cons (s_set ⟨nd__law_nicks, rfl, Or.inr lk__law_nicks_shift, Or.inl rfl⟩ (e_call1 h__law_draw (a_cons (e_var (i := 1) rfl (Or.inr (Or.inl lk__law_nicks_jar))) (a_cons e_int a_nil)) lk__law_nicks__law_draw)) (ss_cons (s_set ⟨nd__law_nicks, rfl, Or.inr lk__law_nicks_names, Or.inl rfl⟩ (e_cty (fun _ A => c_tup A) T.no_tuple rfl (a_cons (e_lc (own := [("k", 13)]) nd__law_nicks (by dsimp only; decide +kernel) rfl rfl (i_rg1 T.no_range (a_cons (e_var (i := 2) rfl (Or.inl lk__law_nicks_size)) a_nil) lk__law_nicks_range) (fun _ => (g_nm ⟨nd__law_nicks, rfl, (by first | exact Or.inl rfl | exact Or.inr rfl), (by first | exact Or.inl rfl | exact Or.inr rfl)⟩)) (fun _ => ts_no) (fun _ => (e_call ⟨h__law_fount.ex⟩ (a_cons (e_var (i := 13) rfl ) (a_cons (e_var (i := 3) rfl ) (a_cons (e_call1 ⟨h__law_draw.ex⟩ (a_cons (e_var (i := 1) rfl ) (a_cons e_int a_nil)) ) a_nil))) ))) a_nil) lk__law_nicks_tuple)) (ss_cons (s_set ⟨nd__law_nicks, rfl, Or.inl lk__law_nicks_count, Or.inl rfl⟩ (e_ix (e_lst (a_cons (e_call1 h__law_draw (a_cons (e_var (i := 1) rfl (Or.inr (Or.inl lk__law_nicks_jar))) (a_cons e_int a_nil)) lk__law_nicks__law_draw) (a_cons (e_call1 h__law_draw (a_cons (e_var (i := 1) rfl (Or.inr (Or.inl lk__law_nicks_jar))) (a_cons e_int a_nil)) lk__law_nicks__law_draw) (a_cons (e_var (i := 2) rfl (Or.inl lk__law_nicks_size)) (a_cons e_int a_nil))))) (e_call1 h__law_draw (a_cons (e_var (i := 1) rfl (Or.inr (Or.inl lk__law_nicks_jar))) (a_cons e_int a_nil)) lk__law_nicks__law_draw))) (ss_cons (s_set ⟨nd__law_nicks, rfl, Or.inl lk__law_nicks_kept, Or.inl rfl⟩ (e_call1 h__law_draw (a_cons (e_var (i := 1) rfl (Or.inr (Or.inl lk__law_nicks_jar))) (a_cons e_int a_nil)) lk__law_nicks__law_draw)) (ss_cons (s_set ⟨nd__law_nicks, rfl, Or.inr lk__law_nicks_bits, Or.inl rfl⟩ (e_lc (own := [("name", 15)]) nd__law_nicks (by dsimp only; decide +kernel) rfl rfl (i_val (e_var (i := 4) rfl (Or.inr (Or.inl lk__law_nicks_names)))) (fun _ => (g_nm ⟨nd__law_nicks, rfl, (by first | exact Or.inl rfl | exact Or.inr rfl), (by first | exact Or.inl rfl | exact Or.inr rfl)⟩)) (fun _ => ts_no) (fun _ => (e_call1 ⟨h__law_draw.ex⟩ (a_cons (e_var (i := 1) rfl ) (a_cons e_int a_nil)) ))) (fun _ h => sw_cell (by rw [h]; exact lk__law_nicks_bits))) (ss_cons (s_set ⟨nd__law_nicks, rfl, Or.inl lk__law_nicks_rows, Or.inl rfl⟩ (e_lst a_nil)) (ss_cons (s_for (i_rg1 T.no_range (a_cons (e_var (i := 5) rfl (Or.inl lk__law_nicks_count)) a_nil) lk__law_nicks_range) (g_nm ⟨nd__law_nicks, rfl, Or.inl lk__law_nicks_turn, Or.inl rfl⟩) (ss_cons (s_set ⟨nd__law_nicks, rfl, Or.inl lk__law_nicks_own, Or.inl rfl⟩ (e_call h__law_jar (a_cons (e_var (i := 0) rfl (Or.inl lk__law_nicks_script)) (a_cons (e_bin (fun _ A => o_add A) e_int (e_var (i := 9) rfl (Or.inl lk__law_nicks_turn))) a_nil)) lk__law_nicks__law_jar)) (ss_cons (s_set ⟨nd__law_nicks, rfl, Or.inl lk__law_nicks_wide, Or.inl rfl⟩ (e_ix (e_lst (a_cons e_int (a_cons e_int (a_cons e_int (a_cons e_int (a_cons e_int (a_cons e_int a_nil))))))) (e_call1 h__law_draw (a_cons (e_var (i := 10) rfl (Or.inl lk__law_nicks_own)) (a_cons e_int a_nil)) lk__law_nicks__law_draw))) (ss_cons (s_set ⟨nd__law_nicks, rfl, Or.inr lk__law_nicks_members, Or.inl rfl⟩ (e_lst a_nil)) (ss_cons (s_for (i_rg1 T.no_range (a_cons (e_cb (fun _ A => c_min A) T.no_min rfl (a_cons (e_var (i := 11) rfl (Or.inl lk__law_nicks_wide)) (a_cons (e_var (i := 2) rfl (Or.inl lk__law_nicks_size)) a_nil)) lk__law_nicks_min) a_nil) lk__law_nicks_range) (g_nm ⟨nd__law_nicks, rfl, Or.inl lk__law_nicks_k, Or.inl rfl⟩) (ss_cons (s_lc (own := [("name", 15)]) ⟨nd__law_nicks, rfl, Or.inl lk__law_nicks_free, Or.inl rfl⟩ lk__law_nicks_free rfl (by decide +kernel) kd__law_nicks (by dsimp only; decide +kernel) rfl rfl (i_val (e_var (i := 4) rfl (Or.inr (Or.inl lk__law_nicks_names)))) (fun _ => (g_nm ⟨nd__law_nicks, rfl, (by first | exact Or.inl rfl | exact Or.inr rfl), (by first | exact Or.inl rfl | exact Or.inr rfl)⟩)) (fun _ => (ts_one (t_cmp (fun _ A => o_notin A) (e_var (i := 15) rfl ) (e_var (i := 12) rfl )))) (fun _ => (e_var (i := 15) rfl ))) (ss_one (s_ex (e_ml (i := 12) PySem.F.slot_list_append PySem.F.type_list_append (fun _ A => m_append A) (a_cons (e_ix (e_var (i := 16) rfl (Or.inl lk__law_nicks_free)) (e_call1 h__law_draw (a_cons (e_var (i := 10) rfl (Or.inl lk__law_nicks_own)) (a_cons (e_cb (fun _ A => c_len1 A) T.no_len rfl (a_cons (e_var (i := 16) rfl (Or.inl lk__law_nicks_free)) a_nil) lk__law_nicks_len) a_nil)) lk__law_nicks__law_draw)) a_nil) rfl (Or.inr (Or.inl lk__law_nicks_members))))))) (ss_cons (s_set ⟨nd__law_nicks, rfl, Or.inl lk__law_nicks_parity, Or.inl rfl⟩ (e_call1 h__law_draw (a_cons (e_var (i := 10) rfl (Or.inl lk__law_nicks_own)) (a_cons e_int a_nil)) lk__law_nicks__law_draw)) (ss_cons (s_if (t_cmp (fun _ A => o_gt A) (e_var (i := 6) rfl (Or.inl lk__law_nicks_kept)) e_int) (ss_one (s_set ⟨nd__law_nicks, rfl, Or.inl lk__law_nicks_parity, Or.inl rfl⟩ (e_bin (fun _ A => o_mod A) (e_cb (fun _ A => c_sum A) T.no_sum rfl (a_cons (e_lc (own := [("at", 17)]) nd__law_nicks (by dsimp only; decide +kernel) rfl rfl (i_rg1 T.no_range (a_cons (e_var (i := 2) rfl (Or.inl lk__law_nicks_size)) a_nil) lk__law_nicks_range) (fun _ => (g_nm ⟨nd__law_nicks, rfl, (by first | exact Or.inl rfl | exact Or.inr rfl), (by first | exact Or.inl rfl | exact Or.inr rfl)⟩)) (fun _ => (ts_one (t_cmp (fun _ A => o_in A) (e_ix (e_var (i := 4) rfl ) (e_var (i := 17) rfl )) (e_var (i := 12) rfl )))) (fun _ => (e_ix (e_var (i := 7) rfl ) (e_var (i := 17) rfl )))) a_nil) lk__law_nicks_sum) e_int))) ss_nil) (ss_cons (s_if (t_w (w_and (t_cmp (fun _ A => o_eq A) (e_var (i := 6) rfl (Or.inl lk__law_nicks_kept)) e_int) (w_and1 (t_cmp (fun _ A => o_eq A) (e_call1 h__law_draw (a_cons (e_var (i := 10) rfl (Or.inl lk__law_nicks_own)) (a_cons e_int a_nil)) lk__law_nicks__law_draw) e_int)))) (ss_one (s_set ⟨nd__law_nicks, rfl, Or.inl lk__law_nicks_parity, Or.inl rfl⟩ (e_bin (fun _ A => o_sub A) e_int (e_var (i := 14) rfl (Or.inl lk__law_nicks_parity))))) ss_nil) (ss_one (s_ex (e_ml (i := 8) PySem.F.slot_list_append PySem.F.type_list_append (fun _ A => m_append A) (a_cons (e_tup (a_cons (e_cty (fun _ A => c_tup A) T.no_tuple rfl (a_cons (e_var (i := 12) rfl (Or.inr (Or.inl lk__law_nicks_members))) a_nil) lk__law_nicks_tuple) (a_cons (e_var (i := 14) rfl (Or.inl lk__law_nicks_parity)) a_nil))) a_nil) rfl (Or.inl lk__law_nicks_rows)))))))))))) (ss_one (s_ret (e_tup (a_cons (e_var (i := 4) rfl (Or.inr (Or.inl lk__law_nicks_names))) (a_cons (e_cty (fun _ A => c_tup A) T.no_tuple rfl (a_cons (e_var (i := 8) rfl (Or.inl lk__law_nicks_rows)) a_nil) lk__law_nicks_tuple) a_nil))))))))))))))
theorem sc__law_pairs : FnScope ["script", "names", "jar", "pairs", "due", "k", "a", "b", "odd"] ["script", "names"] (defScope st__law_pairs) := ⟨rfl, rfl, rfl, by decide +kernel, rfl, by decide +kernel, by decide +kernel⟩
theorem nd__law_pairs : (["script", "names", "jar", "pairs", "due", "k", "a", "b", "odd"] : List Str).Nodup := sc__law_pairs.nd
theorem kd__law_pairs : (defScope st__law_pairs).kind = .function := rfl
theorem lk__law_pairs__law_draw : (defScope st__law_pairs).names.lookup ("_law_draw" : Str) = some .globalImplicit := by decide +kernel
theorem lk__law_pairs__law_jar : (defScope st__law_pairs).names.lookup ("_law_jar" : Str) = some .globalImplicit := by decide +kernel
theorem lk__law_pairs_a : (defScope st__law_pairs).names.lookup ("a" : Str) = some .local := by decide +kernel
theorem lk__law_pairs_b : (defScope st__law_pairs).names.lookup ("b" : Str) = some .local := by decide +kernel
theorem lk__law_pairs_due : (defScope st__law_pairs).names.lookup ("due" : Str) = some .local := by decide +kernel
theorem lk__law_pairs_jar : (defScope st__law_pairs).names.lookup ("jar" : Str) = some .local := by decide +kernel
theorem lk__law_pairs_k : (defScope st__law_pairs).names.lookup ("k" : Str) = some .local := by decide +kernel
theorem lk__law_pairs_len : (defScope st__law_pairs).names.lookup ("len" : Str) = some .globalImplicit := by decide +kernel
theorem lk__law_pairs_names : (defScope st__law_pairs).names.lookup ("names" : Str) = some .local := by decide +kernel
theorem lk__law_pairs_odd : (defScope st__law_pairs).names.lookup ("odd" : Str) = some .local := by decide +kernel
theorem lk__law_pairs_pairs : (defScope st__law_pairs).names.lookup ("pairs" : Str) = some .local := by decide +kernel
theorem lk__law_pairs_range : (defScope st__law_pairs).names.lookup ("range" : Str) = some .globalImplicit := by decide +kernel
theorem lk__law_pairs_script : (defScope st__law_pairs).names.lookup ("script" : Str) = some .local := by decide +kernel
theorem lk__law_pairs_tuple : (defScope st__law_pairs).names.lookup ("tuple" : Str) = some .globalImplicit := by decide +kernel
theorem cal__law_pairs (T : Txt K mg) : Cal0 P w K mg base 2 "_law_pairs" 2 m__law_pairs := by
  refine Cal0.of (k := 1) (m := 7) (f := b__law_pairs) T.fn__law_pairs sc__law_pairs rfl rfl fun H0 => ?_
  have h__law_jar : Cal ⟨P, w, K, mg, base, ["script", "names", "jar", "pairs", "due", "k", "a", "b", "odd"], defScope st__law_pairs, fun _ => true, 1, H0, []⟩ "_law_jar" 2 m__law_jar := (cal__law_jar T).cal (by decide)
  have h__law_draw : Cal1 ⟨P, w, K, mg, base, ["script", "names", "jar", "pairs", "due", "k", "a", "b", "odd"], defScope st__law_pairs, fun _ => true, 1, H0, []⟩ "_law_draw" 2 0 m__law_draw := (cal__law_draw T).cal (by decide)
  exact (ss_cons (s_set ⟨nd__law_pairs, rfl, Or.inl lk__law_pairs_jar, Or.inl rfl⟩ (e_call h__law_jar (a_cons (e_var (i := 0) rfl (Or.inl lk__law_pairs_script)) (a_cons e_int a_nil)) lk__law_pairs__law_jar)) (ss_cons (s_set ⟨nd__law_pairs, rfl, Or.inl lk__law_pairs_pairs, Or.inl rfl⟩ (e_lst a_nil)) (ss_cons (s_set ⟨nd__law_pairs, rfl, Or.inl lk__law_pairs_due, Or.inl rfl⟩ (e_lst a_nil)) (ss_cons (s_if (t_cmp (fun _ A => o_gt A) (e_cb (fun _ A => c_len1 A) T.no_len rfl (a_cons (e_var (i := 1) rfl (Or.inl lk__law_pairs_names)) a_nil) lk__law_pairs_len) e_int) (ss_one (s_for (i_rg1 T.no_range (a_cons (e_call1 h__law_draw (a_cons (e_var (i := 2) rfl (Or.inl lk__law_pairs_jar)) (a_cons e_int a_nil)) lk__law_pairs__law_draw) a_nil) lk__law_pairs_range) (g_nm ⟨nd__law_pairs, rfl, Or.inl lk__law_pairs_k, Or.inl rfl⟩) (ss_cons (s_set ⟨nd__law_pairs, rfl, Or.inl lk__law_pairs_a, Or.inl rfl⟩ (e_ix (e_var (i := 1) rfl (Or.inl lk__law_pairs_names)) (e_call1 h__law_draw (a_cons (e_var (i := 2) rfl (Or.inl lk__law_pairs_jar)) (a_cons (e_cb (fun _ A => c_len1 A) T.no_len rfl (a_cons (e_var (i := 1) rfl (Or.inl lk__law_pairs_names)) a_nil) lk__law_pairs_len) a_nil)) lk__law_pairs__law_draw))) (ss_cons (s_set ⟨nd__law_pairs, rfl, Or.inl lk__law_pairs_b, Or.inl rfl⟩ (e_ix (e_var (i := 1) rfl (Or.inl lk__law_pairs_names)) (e_call1 h__law_draw (a_cons (e_var (i := 2) rfl (Or.inl lk__law_pairs_jar)) (a_cons (e_cb (fun _ A => c_len1 A) T.no_len rfl (a_cons (e_var (i := 1) rfl (Or.inl lk__law_pairs_names)) a_nil) lk__law_pairs_len) a_nil)) lk__law_pairs__law_draw))) (ss_cons (s_set ⟨nd__law_pairs, rfl, Or.inl lk__law_pairs_odd, Or.inl rfl⟩ (e_call1 h__law_draw (a_cons (e_var (i := 2) rfl (Or.inl lk__law_pairs_jar)) (a_cons e_int a_nil)) lk__law_pairs__law_draw)) (ss_cons (s_ex (e_ml (i := 3) PySem.F.slot_list_append PySem.F.type_list_append (fun _ A => m_append A) (a_cons (e_tup (a_cons (e_var (i := 6) rfl (Or.inl lk__law_pairs_a)) (a_cons (e_var (i := 7) rfl (Or.inl lk__law_pairs_b)) (a_cons (e_ix (e_lst (a_cons e_str (a_cons e_str a_nil))) (e_var (i := 8) rfl (Or.inl lk__law_pairs_odd))) a_nil)))) a_nil) rfl (Or.inl lk__law_pairs_pairs))) (ss_one (s_if (t_cmp (fun _ A => o_eq A) (e_var (i := 6) rfl (Or.inl lk__law_pairs_a)) (e_var (i := 7) rfl (Or.inl lk__law_pairs_b))) (ss_one (s_ex (e_ml (i := 4) PySem.F.slot_list_append PySem.F.type_list_append (fun _ A => m_append A) (a_cons (e_tup (a_cons (e_tup a_nil) (a_cons (e_var (i := 8) rfl (Or.inl lk__law_pairs_odd)) a_nil))) a_nil) rfl (Or.inl lk__law_pairs_due)))) (ss_one (s_ex (e_ml (i := 4) PySem.F.slot_list_append PySem.F.type_list_append (fun _ A => m_append A) (a_cons (e_tup (a_cons (e_tup (a_cons (e_var (i := 6) rfl (Or.inl lk__law_pairs_a)) (a_cons (e_var (i := 7) rfl (Or.inl lk__law_pairs_b)) a_nil))) (a_cons (e_var (i := 8) rfl (Or.inl lk__law_pairs_odd)) a_nil))) a_nil) rfl (Or.inl lk__law_pairs_due)))))))))))) ss_nil) (ss_one (s_ret (e_lst (a_cons (e_cty (fun _ A => c_tup A) T.no_tuple rfl (a_cons (e_var (i := 3) rfl (Or.inl lk__law_pairs_pairs)) a_nil) lk__law_pairs_tuple) (a_cons (e_cty (fun _ A => c_tup A) T.no_tuple rfl (a_cons (e_var (i := 4) rfl (Or.inl lk__law_pairs_due)) a_nil) lk__law_pairs_tuple) a_nil)))))))))
theorem sc__law_wrong : FnScope ["names", "rows", "seven", "wrong", "bad"] ["names", "rows"] (defScope st__law_wrong) := ⟨rfl, rfl, rfl, by decide +kernel, rfl, by decide +kernel, by decide +kernel⟩
theorem nd__law_wrong : (["names", "rows", "seven", "wrong", "bad"] : List Str).Nodup := sc__law_wrong.nd
theorem kd__law_wrong : (defScope st__law_wrong).kind = .function := rfl
theorem lk__law_wrong_bad : (defScope st__law_wrong).names.lookup ("bad" : Str) = some .local := by decide +kernel
theorem lk__law_wrong_list : (defScope st__law_wrong).names.lookup ("list" : Str) = some .globalImplicit := by decide +kernel
theorem lk__law_wrong_names : (defScope st__law_wrong).names.lookup ("names" : Str) = some .local := by decide +kernel
theorem lk__law_wrong_rows : (defScope st__law_wrong).names.lookup ("rows" : Str) = some .local := by decide +kernel
theorem lk__law_wrong_seven : (defScope st__law_wrong).names.lookup ("seven" : Str) = some .local := by decide +kernel
theorem lk__law_wrong_wrong : (defScope st__law_wrong).names.lookup ("wrong" : Str) = some .local := by decide +kernel
theorem cal__law_wrong (T : Txt K mg) : Cal0 P w K mg base 1 "_law_wrong" 2 m__law_wrong := by
  refine Cal0.of (k := 0) (m := 3) (f := b__law_wrong) T.fn__law_wrong sc__law_wrong rfl rfl fun H0 => ?_
  exact (ss_cons (s_set ⟨nd__law_wrong, rfl, Or.inl lk__law_wrong_seven, Or.inl rfl⟩ (e_tup (a_cons e_str (a_cons e_str (a_cons e_str (a_cons e_str (a_cons e_str (a_cons e_str (a_cons e_str a_nil))))))))) (ss_cons (s_set ⟨nd__law_wrong, rfl, Or.inl lk__law_wrong_wrong, Or.inl rfl⟩ (e_lst (a_cons e_non (a_cons (e_tup (a_cons (e_var (i := 0) rfl (Or.inl lk__law_wrong_names)) a_nil)) (a_cons (e_tup (a_cons (e_var (i := 0) rfl (Or.inl lk__law_wrong_names)) (a_cons (e_var (i := 1) rfl (Or.inl lk__law_wrong_rows)) (a_cons e_int a_nil)))) (a_cons (e_lst (a_cons (e_var (i := 0) rfl (Or.inl lk__law_wrong_names)) (a_cons (e_var (i := 1) rfl (Or.inl lk__law_wrong_rows)) a_nil))) (a_cons (e_tup (a_cons (e_cty (fun _ A => c_list A) T.no_list rfl (a_cons (e_var (i := 0) rfl (Or.inl lk__law_wrong_names)) a_nil) lk__law_wrong_list) (a_cons (e_var (i := 1) rfl (Or.inl lk__law_wrong_rows)) a_nil))) (a_cons (e_tup (a_cons (e_var (i := 0) rfl (Or.inl lk__law_wrong_names)) (a_cons (e_cty (fun _ A => c_list A) T.no_list rfl (a_cons (e_var (i := 1) rfl (Or.inl lk__law_wrong_rows)) a_nil) lk__law_wrong_list) a_nil))) a_nil)))))))) (ss_cons (s_ex (e_ml (i := 3) PySem.F.slot_list_extend PySem.F.type_list_extend (fun _ A => m_extend A) (a_cons (e_lst (a_cons (e_tup (a_cons (e_bin (fun _ A => o_add A) (e_var (i := 0) rfl (Or.inl lk__law_wrong_names)) (e_tup (a_cons e_str a_nil))) (a_cons (e_var (i := 1) rfl (Or.inl lk__law_wrong_rows)) a_nil))) (a_cons (e_tup (a_cons (e_bin (fun _ A => o_add A) (e_var (i := 0) rfl (Or.inl lk__law_wrong_names)) (e_tup (a_cons e_str a_nil))) (a_cons (e_var (i := 1) rfl (Or.inl lk__law_wrong_rows)) a_nil))) (a_cons (e_tup (a_cons (e_bin (fun _ A => o_add A) (e_var (i := 0) rfl (Or.inl lk__law_wrong_names)) (e_tup (a_cons e_int a_nil))) (a_cons (e_var (i := 1) rfl (Or.inl lk__law_wrong_rows)) a_nil))) (a_cons (e_tup (a_cons (e_var (i := 0) rfl (Or.inl lk__law_wrong_names)) (a_cons (e_bin (fun _ A => o_add A) (e_var (i := 1) rfl (Or.inl lk__law_wrong_rows)) (e_tup (a_cons (e_tup a_nil) (a_cons e_int a_nil)))) a_nil))) a_nil))))) a_nil) rfl (Or.inl lk__law_wrong_wrong))) (ss_cons (s_ex (e_ml (i := 3) PySem.F.slot_list_extend PySem.F.type_list_extend (fun _ A => m_extend A) (a_cons (e_lst (a_cons (e_tup (a_cons (e_bin (fun _ A => o_add A) (e_sl (e_var (i := 0) rfl (Or.inl lk__law_wrong_names)) p_no (p_so e_int)) (e_tup (a_cons e_str (a_cons e_str a_nil)))) (a_cons (e_var (i := 1) rfl (Or.inl lk__law_wrong_rows)) a_nil))) (a_cons (e_tup (a_cons (e_bin (fun _ A => o_add A) (e_var (i := 2) rfl (Or.inl lk__law_wrong_seven)) (e_tup (a_cons e_str (a_cons e_str (a_cons e_str (a_cons e_str (a_cons e_str (a_cons e_str a_nil)))))))) (a_cons (e_tup a_nil) a_nil))) a_nil))) a_nil) rfl (Or.inl lk__law_wrong_wrong))) (ss_cons (s_ex (e_ml (i := 3) PySem.F.slot_list_extend PySem.F.type_list_extend (fun _ A => m_extend A) (a_cons (e_lst (a_cons (e_tup (a_cons (e_var (i := 2) rfl (Or.inl lk__law_wrong_seven)) (a_cons (e_tup (a_cons (e_tup (a_cons (e_var (i := 2) rfl (Or.inl lk__law_wrong_seven)) (a_cons e_int a_nil))) a_nil)) a_nil))) (a_cons (e_tup (a_cons (e_var (i := 0) rfl (Or.inl lk__law_wrong_names)) (a_cons (e_tup (a_cons (e_tup (a_cons (e_tup (a_cons e_str a_nil)) (a_cons e_int a_nil))) a_nil)) a_nil))) (a_cons (e_tup (a_cons (e_tup (a_cons e_str (a_cons e_str a_nil))) (a_cons (e_tup (a_cons (e_tup (a_cons (e_tup (a_cons e_str (a_cons e_str a_nil))) (a_cons e_int a_nil))) a_nil)) a_nil))) a_nil)))) a_nil) rfl (Or.inl lk__law_wrong_wrong))) (ss_cons (s_ex (e_ml (i := 3) PySem.F.slot_list_extend PySem.F.type_list_extend (fun _ A => m_extend A) (a_cons (e_lst (a_cons (e_tup (a_cons (e_tup (a_cons e_str a_nil)) (a_cons (e_bin (fun _ A => o_mul A) (e_tup (a_cons (e_tup (a_cons (e_tup a_nil) (a_cons e_int a_nil))) a_nil)) e_int) a_nil))) (a_cons (e_tup (a_cons (e_tup (a_cons e_str a_nil)) (a_cons (e_tup (a_cons (e_tup (a_cons (e_lst (a_cons e_str a_nil)) (a_cons e_int a_nil))) a_nil)) a_nil))) (a_cons (e_tup (a_cons (e_tup (a_cons e_str a_nil)) (a_cons (e_tup (a_cons (e_tup (a_cons (e_tup (a_cons e_str a_nil)) (a_cons e_int (a_cons e_int a_nil)))) a_nil)) a_nil))) a_nil)))) a_nil) rfl (Or.inl lk__law_wrong_wrong))) (ss_cons (s_for (i_val (e_lst (a_cons e_int (a_cons (e_un (fun _ A => o_neg A) e_int) (a_cons e_bl (a_cons e_non a_nil)))))) (g_nm ⟨nd__law_wrong, rfl, Or.inl lk__law_wrong_bad, Or.inl rfl⟩) (ss_one (s_ex (e_ml (i := 3) PySem.F.slot_list_append PySem.F.type_list_append (fun _ A => m_append A) (a_cons (e_tup (a_cons (e_tup (a_cons e_str a_nil)) (a_cons (e_tup (a_cons (e_tup (a_cons (e_tup a_nil) (a_cons e_int a_nil))) (a_cons (e_tup (a_cons (e_tup (a_cons e_str a_nil)) (a_cons (e_var (i := 4) rfl (Or.inl lk__law_wrong_bad)) a_nil))) a_nil))) a_nil))) a_nil) rfl (Or.inl lk__law_wrong_wrong))))) (ss_one (s_ret (e_var (i := 3) rfl (Or.inl lk__law_wrong_wrong)))))))))))
theorem sc__law_same_one : FnScope ["one", "other"] ["one", "other"] (defScope st__law_same_one) := ⟨rfl, rfl, rfl, by decide +kernel, rfl, by decide +kernel, by decide +kernel⟩
theorem nd__law_same_one : (["one", "other"] : List Str).Nodup := sc__law_same_one.nd
theorem kd__law_same_one : (defScope st__law_same_one).kind = .function := rfl
theorem lk__law_same_one_bool : (defScope st__law_same_one).names.lookup ("bool" : Str) = some .globalImplicit := by decide +kernel
theorem lk__law_same_one_int : (defScope st__law_same_one).names.lookup ("int" : Str) = some .globalImplicit := by decide +kernel
theorem lk__law_same_one_isinstance : (defScope st__law_same_one).names.lookup ("isinstance" : Str) = some .globalImplicit := by decide +kernel
theorem lk__law_same_one_one : (defScope st__law_same_one).names.lookup ("one" : Str) = some .local := by decide +kernel
theorem lk__law_same_one_other : (defScope st__law_same_one).names.lookup ("other" : Str) = some .local := by decide +kernel
theorem lk__law_same_one_str : (defScope st__law_same_one).names.lookup ("str" : Str) = some .globalImplicit := by decide +kernel
theorem cal__law_same_one (T : Txt K mg) : Cal0 P w K mg base 1 "_law_same_one" 2 m__law_same_one := by
  refine Cal0.of (k := 0) (m := 0) (f := b__law_same_one) T.fn__law_same_one sc__law_same_one rfl rfl fun H0 => ?_
  exact (ss_cons (s_if (t_w (w_or (t_cmp (fun _ A => o_is A) (e_var (i := 0) rfl (Or.inl lk__law_same_one_one)) e_non) (w_or1 (t_cmp (fun _ A => o_is A) (e_var (i := 1) rfl (Or.inl lk__law_same_one_other)) e_non)))) (ss_one (s_ret (e_and (e_cmp (fun _ A => o_is A) (e_var (i := 0) rfl (Or.inl lk__law_same_one_one)) e_non) (e_one (e_cmp (fun _ A => o_is A) (e_var (i := 1) rfl (Or.inl lk__law_same_one_other)) e_non))))) ss_nil) (ss_cons (s_if (t_w (w_or (t_isi .bool rfl T.no_isinstance T.no_bool (e_var (i := 0) rfl (Or.inl lk__law_same_one_one)) lk__law_same_one_isinstance lk__law_same_one_bool) (w_or1 (t_isi .bool rfl T.no_isinstance T.no_bool (e_var (i := 1) rfl (Or.inl lk__law_same_one_other)) lk__law_same_one_isinstance lk__law_same_one_bool)))) (ss_one (s_ret (e_and (e_isi .bool rfl T.no_isinstance T.no_bool (e_var (i := 0) rfl (Or.inl lk__law_same_one_one)) lk__law_same_one_isinstance lk__law_same_one_bool) (e_and (e_isi .bool rfl T.no_isinstance T.no_bool (e_var (i := 1) rfl (Or.inl lk__law_same_one_other)) lk__law_same_one_isinstance lk__law_same_one_bool) (e_one (e_cmp (fun _ A => o_eq A) (e_var (i := 0) rfl (Or.inl lk__law_same_one_one)) (e_var (i := 1) rfl (Or.inl lk__law_same_one_other)))))))) ss_nil) (ss_cons (s_if (t_w (w_and (t_isi .int rfl T.no_isinstance T.no_int (e_var (i := 0) rfl (Or.inl lk__law_same_one_one)) lk__law_same_one_isinstance lk__law_same_one_int) (w_and1 (t_isi .int rfl T.no_isinstance T.no_int (e_var (i := 1) rfl (Or.inl lk__law_same_one_other)) lk__law_same_one_isinstance lk__law_same_one_int)))) (ss_one (s_ret (e_cmp (fun _ A => o_eq A) (e_var (i := 0) rfl (Or.inl lk__law_same_one_one)) (e_var (i := 1) rfl (Or.inl lk__law_same_one_other))))) ss_nil) (ss_one (s_ret (e_and (e_isi .str rfl T.no_isinstance T.no_str (e_var (i := 0) rfl (Or.inl lk__law_same_one_one)) lk__law_same_one_isinstance lk__law_same_one_str) (e_and (e_isi .str rfl T.no_isinstance T.no_str (e_var (i := 1) rfl (Or.inl lk__law_same_one_other)) lk__law_same_one_isinstance lk__law_same_one_str) (e_one (e_cmp (fun _ A => o_eq A) (e_var (i := 0) rfl (Or.inl lk__law_same_one_one)) (e_var (i := 1) rfl (Or.inl lk__law_same_one_other)))))))))))
theorem sc__law_same : FnScope ["first", "second", "waiting", "step", "pair", "one", "other", "at"] ["first", "second"] (defScope st__law_same) := ⟨rfl, rfl, rfl, by decide +kernel, rfl, by decide +kernel, by decide +kernel⟩
theorem nd__law_same : (["first", "second", "waiting", "step", "pair", "one", "other", "at"] : List Str).Nodup := sc__law_same.nd
theorem kd__law_same : (defScope st__law_same).kind = .function := rfl
theorem lk__law_same__law_same_one : (defScope st__law_same).names.lookup ("_law_same_one" : Str) = some .globalImplicit := by decide +kernel
theorem lk__law_same_first : (defScope st__law_same).names.lookup ("first" : Str) = some .local := by decide +kernel
theorem lk__law_same_isinstance : (defScope st__law_same).names.lookup ("isinstance" : Str) = some .globalImplicit := by decide +kernel
theorem lk__law_same_len : (defScope st__law_same).names.lookup ("len" : Str) = some .globalImplicit := by decide +kernel
theorem lk__law_same_one : (defScope st__law_same).names.lookup ("one" : Str) = some .cell := by decide +kernel
theorem lk__law_same_other : (defScope st__law_same).names.lookup ("other" : Str) = some .cell := by decide +kernel
theorem lk__law_same_pair : (defScope st__law_same).names.lookup ("pair" : Str) = some .local := by decide +kernel
theorem lk__law_same_range : (defScope st__law_same).names.lookup ("range" : Str) = some .globalImplicit := by decide +kernel
theorem lk__law_same_second : (defScope st__law_same).names.lookup ("second" : Str) = some .local := by decide +kernel
theorem lk__law_same_step : (defScope st__law_same).names.lookup ("step" : Str) = some .local := by decide +kernel
theorem lk__law_same_tuple : (defScope st__law_same).names.lookup ("tuple" : Str) = some .globalImplicit := by decide +kernel
theorem lk__law_same_waiting : (defScope st__law_same).names.lookup ("waiting" : Str) = some .local := by decide +kernel
theorem cal__law_same (T : Txt K mg) : Cal0 P w K mg base 2 "_law_same" 2 m__law_same := by
  refine Cal0.of (k := 1) (m := 6) (f := b__law_same) T.fn__law_same sc__law_same rfl rfl fun H0 => ?_
  have h__law_same_one : Cal ⟨P, w, K, mg, base, ["first", "second", "waiting", "step", "pair", "one", "other", "at"], defScope st__law_same, fun _ => true, 1, H0, []⟩ "_law_same_one" 2 m__law_same_one := (cal__law_same_one T).cal (by decide)
  exact (ss_cons (s_set ⟨nd__law_same, rfl, Or.inl lk__law_same_waiting, Or.inl rfl⟩ (e_lst (a_cons (e_lst (a_cons (e_var (i := 0) rfl (Or.inl lk__law_same_first)) (a_cons (e_var (i := 1) rfl (Or.inl lk__law_same_second)) a_nil))) a_nil))) (ss_cons (s_for (i_rg1 T.no_range (a_cons e_int a_nil) lk__law_same_range) (g_nm ⟨nd__law_same, rfl, Or.inl lk__law_same_step, Or.inl rfl⟩) (ss_cons (s_if (t_cmp (fun _ A => o_eq A) (e_cb (fun _ A => c_len1 A) T.no_len rfl (a_cons (e_var (i := 2) rfl (Or.inl lk__law_same_waiting)) a_nil) lk__law_same_len) e_int) (ss_one (s_ret e_bl)) ss_nil) (ss_cons (s_set ⟨nd__law_same, rfl, Or.inl lk__law_same_pair, Or.inl rfl⟩ (e_ml0 (i := 2) PySem.F.slot_list_pop PySem.F.type_list_pop (fun _ A => m_pop A) rfl (Or.inl lk__law_same_waiting))) (ss_cons (s_set ⟨nd__law_same, rfl, Or.inr lk__law_same_one, Or.inl rfl⟩ (e_ix (e_var (i := 4) rfl (Or.inl lk__law_same_pair)) e_int)) (ss_cons (s_set ⟨nd__law_same, rfl, Or.inr lk__law_same_other, Or.inl rfl⟩ (e_ix (e_var (i := 4) rfl (Or.inl lk__law_same_pair)) e_int)) (ss_one (s_if (t_w (w_and (t_isi .tuple rfl T.no_isinstance T.no_tuple (e_var (i := 5) rfl (Or.inr (Or.inl lk__law_same_one))) lk__law_same_isinstance lk__law_same_tuple) (w_and1 (t_isi .tuple rfl T.no_isinstance T.no_tuple (e_var (i := 6) rfl (Or.inr (Or.inl lk__law_same_other))) lk__law_same_isinstance lk__law_same_tuple)))) (ss_cons (s_if (t_cmp (fun _ A => o_ne A) (e_cb (fun _ A => c_len1 A) T.no_len rfl (a_cons (e_var (i := 5) rfl (Or.inr (Or.inl lk__law_same_one))) a_nil) lk__law_same_len) (e_cb (fun _ A => c_len1 A) T.no_len rfl (a_cons (e_var (i := 6) rfl (Or.inr (Or.inl lk__law_same_other))) a_nil) lk__law_same_len)) (ss_one (s_ret e_bl)) ss_nil) (ss_one (s_ex (e_ml (i := 2) PySem.F.slot_list_extend PySem.F.type_list_extend (fun _ A => m_extend A) (a_cons (e_lc (own := [("at", 7)]) nd__law_same (by dsimp only; decide +kernel) rfl rfl (i_rg1 T.no_range (a_cons (e_cb (fun _ A => c_len1 A) T.no_len rfl (a_cons (e_var (i := 5) rfl (Or.inr (Or.inl lk__law_same_one))) a_nil) lk__law_same_len) a_nil) lk__law_same_range) (fun _ => (g_nm ⟨nd__law_same, rfl, (by first | exact Or.inl rfl | exact Or.inr rfl), (by first | exact Or.inl rfl | exact Or.inr rfl)⟩)) (fun _ => ts_no) (fun _ => (e_lst (a_cons (e_ix (e_var (i := 5) rfl ) (e_var (i := 7) rfl )) (a_cons (e_ix (e_var (i := 6) rfl ) (e_var (i := 7) rfl )) a_nil))))) a_nil) rfl (Or.inl lk__law_same_waiting))))) (ss_one (s_if (t_w (w_or (t_isi .tuple rfl T.no_isinstance T.no_tuple (e_var (i := 5) rfl (Or.inr (Or.inl lk__law_same_one))) lk__law_same_isinstance lk__law_same_tuple) (w_or (t_isi .tuple rfl T.no_isinstance T.no_tuple (e_var (i := 6) rfl (Or.inr (Or.inl lk__law_same_other))) lk__law_same_isinstance lk__law_same_tuple) (w_or1 (t_not (t_tru (e_call h__law_same_one (a_cons (e_var (i := 5) rfl (Or.inr (Or.inl lk__law_same_one))) (a_cons (e_var (i := 6) rfl (Or.inr (Or.inl lk__law_same_other))) a_nil)) lk__law_same__law_same_one))))))) (ss_one (s_ret e_bl)) ss_nil))))))))) (ss_one (s_ret e_bl))))
theorem sc_is_tuple_of : FnScope ["value", "low", "high"] ["value", "low", "high"] (defScope st_is_tuple_of) := ⟨rfl, rfl, rfl, by decide +kernel, rfl, by decide +kernel, by decide +kernel⟩
theorem nd_is_tuple_of : (["value", "low", "high"] : List Str).Nodup := sc_is_tuple_of.nd
theorem kd_is_tuple_of : (defScope st_is_tuple_of).kind = .function := rfl
theorem lk_is_tuple_of_high : (defScope st_is_tuple_of).names.lookup ("high" : Str) = some .local := by decide +kernel
theorem lk_is_tuple_of_isinstance : (defScope st_is_tuple_of).names.lookup ("isinstance" : Str) = some .globalImplicit := by decide +kernel
theorem lk_is_tuple_of_len : (defScope st_is_tuple_of).names.lookup ("len" : Str) = some .globalImplicit := by decide +kernel
theorem lk_is_tuple_of_low : (defScope st_is_tuple_of).names.lookup ("low" : Str) = some .local := by decide +kernel
theorem lk_is_tuple_of_tuple : (defScope st_is_tuple_of).names.lookup ("tuple" : Str) = some .globalImplicit := by decide +kernel
theorem lk_is_tuple_of_value : (defScope st_is_tuple_of).names.lookup ("value" : Str) = some .local := by decide +kernel
theorem cal_is_tuple_of (T : Txt K mg) : Cal0 P w K mg base 1 "is_tuple_of" 3 m_is_tuple_of := by
  refine Cal0.of (k := 0) (m := 0) (f := b_is_tuple_of) T.fn_is_tuple_of sc_is_tuple_of rfl rfl fun H0 => ?_
  exact (ss_one (s_ret (e_and (e_isi .tuple rfl T.no_isinstance T.no_tuple (e_var (i := 0) rfl (Or.inl lk_is_tuple_of_value)) lk_is_tuple_of_isinstance lk_is_tuple_of_tuple) (e_one (e_chain (fun _ A => o_le A) (fun _ A => o_le A) (e_var (i := 1) rfl (Or.inl lk_is_tuple_of_low)) (e_cb (fun _ A => c_len1 A) T.no_len rfl (a_cons (e_var (i := 0) rfl (Or.inl lk_is_tuple_of_value)) a_nil) lk_is_tuple_of_len) (e_var (i := 2) rfl (Or.inl lk_is_tuple_of_high)))))))
theorem sc_is_name : FnScope ["value", "char"] ["value"] (defScope st_is_name) := ⟨rfl, rfl, rfl, by decide +kernel, rfl, by decide +kernel, by decide +kernel⟩
theorem nd_is_name : (["value", "char"] : List Str).Nodup := sc_is_name.nd
theorem kd_is_name : (defScope st_is_name).kind = .function := rfl
theorem lk_is_name_char : (defScope st_is_name).names.lookup ("char" : Str) = some .local := by decide +kernel
theorem lk_is_name_isinstance : (defScope st_is_name).names.lookup ("isinstance" : Str) = some .globalImplicit := by decide +kernel
theorem lk_is_name_len : (defScope st_is_name).names.lookup ("len" : Str) = some .globalImplicit := by decide +kernel
theorem lk_is_name_str : (defScope st_is_name).names.lookup ("str" : Str) = some .globalImplicit := by decide +kernel
theorem lk_is_name_value : (defScope st_is_name).names.lookup ("value" : Str) = some .local := by decide +kernel
theorem cal_is_name (T : Txt K mg) : Cal0 P w K mg base 1 "is_name" 1 m_is_name := by
  refine Cal0.of (k := 0) (m := 1) (f := b_is_name) T.fn_is_name sc_is_name rfl rfl fun H0 => ?_
  exact (ss_cons (s_if (t_not (t_isi .str rfl T.no_isinstance T.no_str (e_var (i := 0) rfl (Or.inl lk_is_name_value)) lk_is_name_isinstance lk_is_name_str)) (ss_one (s_ret e_bl)) ss_nil) (ss_cons (s_if (t_w (w_or (t_cmp (fun _ A => o_lt A) (e_cb (fun _ A => c_len1 A) T.no_len rfl (a_cons (e_var (i := 0) rfl (Or.inl lk_is_name_value)) a_nil) lk_is_name_len) e_int) (w_or1 (t_cmp (fun _ A => o_gt A) (e_cb (fun _ A => c_len1 A) T.no_len rfl (a_cons (e_var (i := 0) rfl (Or.inl lk_is_name_value)) a_nil) lk_is_name_len) e_int)))) (ss_one (s_ret e_bl)) ss_nil) (ss_cons (s_if (t_cmp (fun _ A => o_notin A) (e_ix (e_var (i := 0) rfl (Or.inl lk_is_name_value)) e_int) (e_glob ⟨T.con_LETTERS⟩)) (ss_one (s_ret e_bl)) ss_nil) (ss_cons (s_for (i_val (e_var (i := 0) rfl (Or.inl lk_is_name_value))) (g_nm ⟨nd_is_name, rfl, Or.inl lk_is_name_char, Or.inl rfl⟩) (ss_one (s_if (t_w (w_and (t_cmp (fun _ A => o_notin A) (e_var (i := 1) rfl (Or.inl lk_is_name_char)) (e_glob ⟨T.con_LETTERS⟩)) (w_and1 (t_cmp (fun _ A => o_notin A) (e_var (i := 1) rfl (Or.inl lk_is_name_char)) (e_glob ⟨T.con_DIGITS⟩))))) (ss_one (s_ret e_bl)) ss_nil))) (ss_one (s_ret e_bl))))))
theorem sc_is_names : FnScope ["value", "low", "high", "seen", "item"] ["value", "low", "high"] (defScope st_is_names) := ⟨rfl, rfl, rfl, by decide +kernel, rfl, by decide +kernel, by decide +kernel⟩
theorem nd_is_names : (["value", "low", "high", "seen", "item"] : List Str).Nodup := sc_is_names.nd
theorem kd_is_names : (defScope st_is_names).kind = .function := rfl
theorem lk_is_names_high : (defScope st_is_names).names.lookup ("high" : Str) = some .local := by decide +kernel
theorem lk_is_names_is_name : (defScope st_is_names).names.lookup ("is_name" : Str) = some .globalImplicit := by decide +kernel
theorem lk_is_names_is_tuple_of : (defScope st_is_names).names.lookup ("is_tuple_of" : Str) = some .globalImplicit := by decide +kernel
theorem lk_is_names_item : (defScope st_is_names).names.lookup ("item" : Str) = some .local := by decide +kernel
theorem lk_is_names_low : (defScope st_is_names).names.lookup ("low" : Str) = some .local := by decide +kernel
theorem lk_is_names_seen : (defScope st_is_names).names.lookup ("seen" : Str) = some .local := by decide +kernel
theorem lk_is_names_value : (defScope st_is_names).names.lookup ("value" : Str) = some .local := by decide +kernel
theorem cal_is_names (T : Txt K mg) : Cal0 P w K mg base 2 "is_names" 3 m_is_names := by
  refine Cal0.of (k := 1) (m := 2) (f := b_is_names) T.fn_is_names sc_is_names rfl rfl fun H0 => ?_
  have h_is_tuple_of : Cal ⟨P, w, K, mg, base, ["value", "low", "high", "seen", "item"], defScope st_is_names, fun _ => true, 1, H0, []⟩ "is_tuple_of" 3 m_is_tuple_of := (cal_is_tuple_of T).cal (by decide)
  have h_is_name : Cal ⟨P, w, K, mg, base, ["value", "low", "high", "seen", "item"], defScope st_is_names, fun _ => true, 1, H0, []⟩ "is_name" 1 m_is_name := (cal_is_name T).cal (by decide)
  exact (ss_cons (s_if (t_not (t_tru (e_call h_is_tuple_of (a_cons (e_var (i := 0) rfl (Or.inl lk_is_names_value)) (a_cons (e_var (i := 1) rfl (Or.inl lk_is_names_low)) (a_cons (e_var (i := 2) rfl (Or.inl lk_is_names_high)) a_nil))) lk_is_names_is_tuple_of))) (ss_one (s_ret e_bl)) ss_nil) (ss_cons (s_set ⟨nd_is_names, rfl, Or.inl lk_is_names_seen, Or.inl rfl⟩ e_dnewK) (ss_cons (s_for (i_val (e_var (i := 0) rfl (Or.inl lk_is_names_value))) (g_nm ⟨nd_is_names, rfl, Or.inl lk_is_names_item, Or.inl rfl⟩) (ss_cons (s_if (t_w (w_or (t_not (t_tru (e_call h_is_name (a_cons (e_var (i := 4) rfl (Or.inl lk_is_names_item)) a_nil) lk_is_names_is_name))) (w_or1 (t_cmp (fun _ A => o_in A) (e_var (i := 4) rfl (Or.inl lk_is_names_item)) (e_var (i := 3) rfl (Or.inl lk_is_names_seen)))))) (ss_one (s_ret e_bl)) ss_nil) (ss_one (s_asg e_bl (g_sub (i := 3) (e_var (i := 4) rfl (Or.inl lk_is_names_item)) rfl (Or.inl lk_is_names_seen)))))) (ss_one (s_ret e_bl)))))
theorem sc_is_whole : FnScope ["value"] ["value"] (defScope st_is_whole) := ⟨rfl, rfl, rfl, by decide +kernel, rfl, by decide +kernel, by decide +kernel⟩
theorem nd_is_whole : (["value"] : List Str).Nodup := sc_is_whole.nd
theorem kd_is_whole : (defScope st_is_whole).kind = .function := rfl
theorem lk_is_whole_bool : (defScope st_is_whole).names.lookup ("bool" : Str) = some .globalImplicit := by decide +kernel
theorem lk_is_whole_int : (defScope st_is_whole).names.lookup ("int" : Str) = some .globalImplicit := by decide +kernel
theorem lk_is_whole_isinstance : (defScope st_is_whole).names.lookup ("isinstance" : Str) = some .globalImplicit := by decide +kernel
theorem lk_is_whole_value : (defScope st_is_whole).names.lookup ("value" : Str) = some .local := by decide +kernel
theorem cal_is_whole (T : Txt K mg) : Cal0 P w K mg base 1 "is_whole" 1 m_is_whole := by
  refine Cal0.of (k := 0) (m := 0) (f := b_is_whole) T.fn_is_whole sc_is_whole rfl rfl fun H0 => ?_
  exact (ss_one (s_ret (e_and (e_isi .int rfl T.no_isinstance T.no_int (e_var (i := 0) rfl (Or.inl lk_is_whole_value)) lk_is_whole_isinstance lk_is_whole_int) (e_one (e_not (e_isi .bool rfl T.no_isinstance T.no_bool (e_var (i := 0) rfl (Or.inl lk_is_whole_value)) lk_is_whole_isinstance lk_is_whole_bool))))))
theorem sc_is_whole_in : FnScope ["value", "low", "high"] ["value", "low", "high"] (defScope st_is_whole_in) := ⟨rfl, rfl, rfl, by decide +kernel, rfl, by decide +kernel, by decide +kernel⟩
theorem nd_is_whole_in : (["value", "low", "high"] : List Str).Nodup := sc_is_whole_in.nd
theorem kd_is_whole_in : (defScope st_is_whole_in).kind = .function := rfl
theorem lk_is_whole_in_high : (defScope st_is_whole_in).names.lookup ("high" : Str) = some .local := by decide +kernel
theorem lk_is_whole_in_is_whole : (defScope st_is_whole_in).names.lookup ("is_whole" : Str) = some .globalImplicit := by decide +kernel
theorem lk_is_whole_in_low : (defScope st_is_whole_in).names.lookup ("low" : Str) = some .local := by decide +kernel
theorem lk_is_whole_in_value : (defScope st_is_whole_in).names.lookup ("value" : Str) = some .local := by decide +kernel
theorem cal_is_whole_in (T : Txt K mg) : Cal0 P w K mg base 2 "is_whole_in" 3 m_is_whole_in := by
  refine Cal0.of (k := 1) (m := 0) (f := b_is_whole_in) T.fn_is_whole_in sc_is_whole_in rfl rfl fun H0 => ?_
  have h_is_whole : Cal ⟨P, w, K, mg, base, ["value", "low", "high"], defScope st_is_whole_in, fun _ => true, 1, H0, []⟩ "is_whole" 1 m_is_whole := (cal_is_whole T).cal (by decide)
  exact (ss_one (s_ret (e_and (e_call h_is_whole (a_cons (e_var (i := 0) rfl (Or.inl lk_is_whole_in_value)) a_nil) lk_is_whole_in_is_whole) (e_one (e_chain (fun _ A => o_le A) (fun _ A => o_le A) (e_var (i := 1) rfl (Or.inl lk_is_whole_in_low)) (e_var (i := 0) rfl (Or.inl lk_is_whole_in_value)) (e_var (i := 2) rfl (Or.inl lk_is_whole_in_high)))))))
theorem sc_check_nicks : FnScope ["subject", "row", "names", "rows", "name"] ["subject"] (defScope st_check_nicks) := ⟨rfl, rfl, rfl, by decide +kernel, rfl, by decide +kernel, by decide +kernel⟩
theorem nd_check_nicks : (["subject", "row", "names", "rows", "name"] : List Str).Nodup := sc_check_nicks.nd
theorem kd_check_nicks : (defScope st_check_nicks).kind = .function := rfl
theorem lk_check_nicks_BadNick : (defScope st_check_nicks).names.lookup ("BadNick" : Str) = some .globalImplicit := by decide +kernel
theorem lk_check_nicks_is_names : (defScope st_check_nicks).names.lookup ("is_names" : Str) = some .globalImplicit := by decide +kernel
theorem lk_check_nicks_is_tuple_of : (defScope st_check_nicks).names.lookup ("is_tuple_of" : Str) = some .globalImplicit := by decide +kernel
theorem lk_check_nicks_is_whole_in : (defScope st_check_nicks).names.lookup ("is_whole_in" : Str) = some .globalImplicit := by decide +kernel
theorem lk_check_nicks_name : (defScope st_check_nicks).names.lookup ("name" : Str) = some .local := by decide +kernel
theorem lk_check_nicks_names : (defScope st_check_nicks).names.lookup ("names" : Str) = some .local := by decide +kernel
theorem lk_check_nicks_row : (defScope st_check_nicks).names.lookup ("row" : Str) = some .local := by decide +kernel
theorem lk_check_nicks_rows : (defScope st_check_nicks).names.lookup ("rows" : Str) = some .local := by decide +kernel
theorem lk_check_nicks_subject : (defScope st_check_nicks).names.lookup ("subject" : Str) = some .local := by decide +kernel
theorem cal_check_nicks (T : Txt K mg) : Cal0 P w K mg base 3 "check_nicks" 1 m_check_nicks := by
  refine Cal0.of (k := 2) (m := 4) (f := b_check_nicks) T.fn_check_nicks sc_check_nicks rfl rfl fun H0 => ?_
  have h_is_tuple_of : Cal ⟨P, w, K, mg, base, ["subject", "row", "names", "rows", "name"], defScope st_check_nicks, fun _ => true, 2, H0, []⟩ "is_tuple_of" 3 m_is_tuple_of := (cal_is_tuple_of T).cal (by decide)
  have h_is_names : Cal ⟨P, w, K, mg, base, ["subject", "row", "names", "rows", "name"], defScope st_check_nicks, fun _ => true, 2, H0, []⟩ "is_names" 3 m_is_names := (cal_is_names T).cal (by decide)
  have h_is_whole_in : Cal ⟨P, w, K, mg, base, ["subject", "row", "names", "rows", "name"], defScope st_check_nicks, fun _ => true, 2, H0, []⟩ "is_whole_in" 3 m_is_whole_in := (cal_is_whole_in T).cal (by decide)
  exact (ss_cons (s_if (t_not (t_tru (e_call h_is_tuple_of (a_cons (e_var (i := 0) rfl (Or.inl lk_check_nicks_subject)) (a_cons e_int (a_cons e_int a_nil))) lk_check_nicks_is_tuple_of))) (ss_one (s_raise ⟨T.exc_BadNick⟩ lk_check_nicks_BadNick)) ss_nil) (ss_cons (s_asg (e_var (i := 0) rfl (Or.inl lk_check_nicks_subject)) (g_tp (gs_cons (g_nm ⟨nd_check_nicks, rfl, Or.inl lk_check_nicks_names, Or.inl rfl⟩) (gs_cons (g_nm ⟨nd_check_nicks, rfl, Or.inl lk_check_nicks_rows, Or.inl rfl⟩) gs_nil)))) (ss_cons (s_if (t_not (t_tru (e_call h_is_names (a_cons (e_var (i := 2) rfl (Or.inl lk_check_nicks_names)) (a_cons e_int (a_cons (e_glob ⟨T.con_MOST_NAMES⟩) a_nil))) lk_check_nicks_is_names))) (ss_one (s_raise ⟨T.exc_BadNick⟩ lk_check_nicks_BadNick)) ss_nil) (ss_cons (s_if (t_not (t_tru (e_call h_is_tuple_of (a_cons (e_var (i := 3) rfl (Or.inl lk_check_nicks_rows)) (a_cons e_int (a_cons (e_glob ⟨T.con_MOST_ROWS⟩) a_nil))) lk_check_nicks_is_tuple_of))) (ss_one (s_raise ⟨T.exc_BadNick⟩ lk_check_nicks_BadNick)) ss_nil) (ss_one (s_for (i_val (e_var (i := 3) rfl (Or.inl lk_check_nicks_rows))) (g_nm ⟨nd_check_nicks, rfl, Or.inl lk_check_nicks_row, Or.inl rfl⟩) (ss_cons (s_if (t_w (w_or (t_not (t_tru (e_call h_is_tuple_of (a_cons (e_var (i := 1) rfl (Or.inl lk_check_nicks_row)) (a_cons e_int (a_cons e_int a_nil))) lk_check_nicks_is_tuple_of))) (w_or1 (t_not (t_tru (e_call h_is_names (a_cons (e_ix (e_var (i := 1) rfl (Or.inl lk_check_nicks_row)) e_int) (a_cons e_int (a_cons (e_glob ⟨T.con_MOST_MEMBERS⟩) a_nil))) lk_check_nicks_is_names)))))) (ss_one (s_raise ⟨T.exc_BadNick⟩ lk_check_nicks_BadNick)) ss_nil) (ss_cons (s_for (i_val (e_ix (e_var (i := 1) rfl (Or.inl lk_check_nicks_row)) e_int)) (g_nm ⟨nd_check_nicks, rfl, Or.inl lk_check_nicks_name, Or.inl rfl⟩) (ss_one (s_if (t_cmp (fun _ A => o_notin A) (e_var (i := 4) rfl (Or.inl lk_check_nicks_name)) (e_var (i := 2) rfl (Or.inl lk_check_nicks_names))) (ss_one (s_raise ⟨T.exc_BadNick⟩ lk_check_nicks_BadNick)) ss_nil))) (ss_one (s_if (t_not (t_tru (e_call h_is_whole_in (a_cons (e_ix (e_var (i := 1) rfl (Or.inl lk_check_nicks_row)) e_int) (a_cons e_int (a_cons e_int a_nil))) lk_check_nicks_is_whole_in))) (ss_one (s_raise ⟨T.exc_BadNick⟩ lk_check_nicks_BadNick)) ss_nil))))))))))
theorem sc__law_is : FnScope ["value", "due"] ["value", "due"] (defScope st__law_is) := ⟨rfl, rfl, rfl, by decide +kernel, rfl, by decide +kernel, by decide +kernel⟩
theorem nd__law_is : (["value", "due"] : List Str).Nodup := sc__law_is.nd
theorem kd__law_is : (defScope st__law_is).kind = .function := rfl
theorem lk__law_is_bool : (defScope st__law_is).names.lookup ("bool" : Str) = some .globalImplicit := by decide +kernel
theorem lk__law_is_due : (defScope st__law_is).names.lookup ("due" : Str) = some .local := by decide +kernel
theorem lk__law_is_isinstance : (defScope st__law_is).names.lookup ("isinstance" : Str) = some .globalImplicit := by decide +kernel
theorem lk__law_is_value : (defScope st__law_is).names.lookup ("value" : Str) = some .local := by decide +kernel
theorem cal__law_is (T : Txt K mg) : Cal0 P w K mg base 1 "_law_is" 2 m__law_is := by
  refine Cal0.of (k := 0) (m := 0) (f := b__law_is) T.fn__law_is sc__law_is rfl rfl fun H0 => ?_
  exact (ss_one (s_ret (e_and (e_isi .bool rfl T.no_isinstance T.no_bool (e_var (i := 0) rfl (Or.inl lk__law_is_value)) lk__law_is_isinstance lk__law_is_bool) (e_one (e_cmp (fun _ A => o_eq A) (e_var (i := 0) rfl (Or.inl lk__law_is_value)) (e_var (i := 1) rfl (Or.inl lk__law_is_due)))))))
theorem sc_same_single : FnScope ["first", "second"] ["first", "second"] (defScope st_same_single) := ⟨rfl, rfl, rfl, by decide +kernel, rfl, by decide +kernel, by decide +kernel⟩
theorem nd_same_single : (["first", "second"] : List Str).Nodup := sc_same_single.nd
theorem kd_same_single : (defScope st_same_single).kind = .function := rfl
theorem lk_same_single_bool : (defScope st_same_single).names.lookup ("bool" : Str) = some .globalImplicit := by decide +kernel
theorem lk_same_single_first : (defScope st_same_single).names.lookup ("first" : Str) = some .local := by decide +kernel
theorem lk_same_single_int : (defScope st_same_single).names.lookup ("int" : Str) = some .globalImplicit := by decide +kernel
theorem lk_same_single_isinstance : (defScope st_same_single).names.lookup ("isinstance" : Str) = some .globalImplicit := by decide +kernel
theorem lk_same_single_second : (defScope st_same_single).names.lookup ("second" : Str) = some .local := by decide +kernel
theorem lk_same_single_str : (defScope st_same_single).names.lookup ("str" : Str) = some .globalImplicit := by decide +kernel
theorem cal_same_single (T : Txt K mg) : Cal0 P w K mg base 1 "same_single" 2 m_same_single := by
  refine Cal0.of (k := 0) (m := 0) (f := b_same_single) T.fn_same_single sc_same_single rfl rfl fun H0 => ?_
  exact (ss_cons (s_if (t_w (w_or (t_cmp (fun _ A => o_is A) (e_var (i := 0) rfl (Or.inl lk_same_single_first)) e_non) (w_or1 (t_cmp (fun _ A => o_is A) (e_var (i := 1) rfl (Or.inl lk_same_single_second)) e_non)))) (ss_one (s_ret (e_and (e_cmp (fun _ A => o_is A) (e_var (i := 0) rfl (Or.inl lk_same_single_first)) e_non) (e_one (e_cmp (fun _ A => o_is A) (e_var (i := 1) rfl (Or.inl lk_same_single_second)) e_non))))) ss_nil) (ss_cons (s_if (t_w (w_or (t_isi .bool rfl T.no_isinstance T.no_bool (e_var (i := 0) rfl (Or.inl lk_same_single_first)) lk_same_single_isinstance lk_same_single_bool) (w_or1 (t_isi .bool rfl T.no_isinstance T.no_bool (e_var (i := 1) rfl (Or.inl lk_same_single_second)) lk_same_single_isinstance lk_same_single_bool)))) (ss_one (s_ret (e_and (e_isi .bool rfl T.no_isinstance T.no_bool (e_var (i := 0) rfl (Or.inl lk_same_single_first)) lk_same_single_isinstance lk_same_single_bool) (e_and (e_isi .bool rfl T.no_isinstance T.no_bool (e_var (i := 1) rfl (Or.inl lk_same_single_second)) lk_same_single_isinstance lk_same_single_bool) (e_one (e_cmp (fun _ A => o_eq A) (e_var (i := 0) rfl (Or.inl lk_same_single_first)) (e_var (i := 1) rfl (Or.inl lk_same_single_second)))))))) ss_nil) (ss_cons (s_if (t_w (w_or (t_isi .int rfl T.no_isinstance T.no_int (e_var (i := 0) rfl (Or.inl lk_same_single_first)) lk_same_single_isinstance lk_same_single_int) (w_or1 (t_isi .int rfl T.no_isinstance T.no_int (e_var (i := 1) rfl (Or.inl lk_same_single_second)) lk_same_single_isinstance lk_same_single_int)))) (ss_one (s_ret (e_and (e_isi .int rfl T.no_isinstance T.no_int (e_var (i := 0) rfl (Or.inl lk_same_single_first)) lk_same_single_isinstance lk_same_single_int) (e_and (e_isi .int rfl T.no_isinstance T.no_int (e_var (i := 1) rfl (Or.inl lk_same_single_second)) lk_same_single_isinstance lk_same_single_int) (e_one (e_cmp (fun _ A => o_eq A) (e_var (i := 0) rfl (Or.inl lk_same_single_first)) (e_var (i := 1) rfl (Or.inl lk_same_single_second)))))))) ss_nil) (ss_one (s_ret (e_and (e_isi .str rfl T.no_isinstance T.no_str (e_var (i := 0) rfl (Or.inl lk_same_single_first)) lk_same_single_isinstance lk_same_single_str) (e_and (e_isi .str rfl T.no_isinstance T.no_str (e_var (i := 1) rfl (Or.inl lk_same_single_second)) lk_same_single_isinstance lk_same_single_str) (e_one (e_cmp (fun _ A => o_eq A) (e_var (i := 0) rfl (Or.inl lk_same_single_first)) (e_var (i := 1) rfl (Or.inl lk_same_single_second)))))))))))
theorem sc_same : FnScope ["first", "second", "waiting", "one", "other", "at"] ["first", "second"] (defScope st_same) := ⟨rfl, rfl, rfl, by decide +kernel, rfl, by decide +kernel, by decide +kernel⟩
theorem nd_same : (["first", "second", "waiting", "one", "other", "at"] : List Str).Nodup := sc_same.nd
theorem kd_same : (defScope st_same).kind = .function := rfl
theorem lk_same_at : (defScope st_same).names.lookup ("at" : Str) = some .local := by decide +kernel
theorem lk_same_first : (defScope st_same).names.lookup ("first" : Str) = some .local := by decide +kernel
theorem lk_same_isinstance : (defScope st_same).names.lookup ("isinstance" : Str) = some .globalImplicit := by decide +kernel
theorem lk_same_len : (defScope st_same).names.lookup ("len" : Str) = some .globalImplicit := by decide +kernel
theorem lk_same_one : (defScope st_same).names.lookup ("one" : Str) = some .local := by decide +kernel
theorem lk_same_other : (defScope st_same).names.lookup ("other" : Str) = some .local := by decide +kernel
theorem lk_same_range : (defScope st_same).names.lookup ("range" : Str) = some .globalImplicit := by decide +kernel
theorem lk_same_same_single : (defScope st_same).names.lookup ("same_single" : Str) = some .globalImplicit := by decide +kernel
theorem lk_same_second : (defScope st_same).names.lookup ("second" : Str) = some .local := by decide +kernel
theorem lk_same_tuple : (defScope st_same).names.lookup ("tuple" : Str) = some .globalImplicit := by decide +kernel
theorem lk_same_waiting : (defScope st_same).names.lookup ("waiting" : Str) = some .local := by decide +kernel
theorem cal_same (T : Txt K mg) : Cal0 P w K mg base 2 "same" 2 m_same := by
  refine Cal0.of (k := 1) (m := 4) (f := b_same) T.fn_same sc_same rfl rfl fun H0 => ?_
  have h_same_single : Cal ⟨P, w, K, mg, base, ["first", "second", "waiting", "one", "other", "at"], defScope st_same, fun _ => true, 1, H0, []⟩ "same_single" 2 m_same_single := (cal_same_single T).cal (by decide)
  exact (ss_cons (s_set ⟨nd_same, rfl, Or.inl lk_same_waiting, Or.inl rfl⟩ (e_lst (a_cons (e_tup (a_cons (e_var (i := 0) rfl (Or.inl lk_same_first)) (a_cons (e_var (i := 1) rfl (Or.inl lk_same_second)) a_nil))) a_nil))) (ss_cons (s_wh 1000000000 (t_tru (e_var (i := 2) rfl (Or.inl lk_same_waiting))) (ss_cons (s_asg (e_ml0 (i := 2) PySem.F.slot_list_pop PySem.F.type_list_pop (fun _ A => m_pop A) rfl (Or.inl lk_same_waiting)) (g_tp (gs_cons (g_nm ⟨nd_same, rfl, Or.inl lk_same_one, Or.inl rfl⟩) (gs_cons (g_nm ⟨nd_same, rfl, Or.inl lk_same_other, Or.inl rfl⟩) gs_nil)))) (ss_one (s_if (t_w (w_or (t_isi .tuple rfl T.no_isinstance T.no_tuple (e_var (i := 3) rfl (Or.inl lk_same_one)) lk_same_isinstance lk_same_tuple) (w_or1 (t_isi .tuple rfl T.no_isinstance T.no_tuple (e_var (i := 4) rfl (Or.inl lk_same_other)) lk_same_isinstance lk_same_tuple)))) (ss_cons (s_if (t_w (w_or (t_not (t_isi .tuple rfl T.no_isinstance T.no_tuple (e_var (i := 3) rfl (Or.inl lk_same_one)) lk_same_isinstance lk_same_tuple)) (w_or1 (t_not (t_isi .tuple rfl T.no_isinstance T.no_tuple (e_var (i := 4) rfl (Or.inl lk_same_other)) lk_same_isinstance lk_same_tuple))))) (ss_one (s_ret e_bl)) ss_nil) (ss_cons (s_if (t_cmp (fun _ A => o_ne A) (e_cb (fun _ A => c_len1 A) T.no_len rfl (a_cons (e_var (i := 3) rfl (Or.inl lk_same_one)) a_nil) lk_same_len) (e_cb (fun _ A => c_len1 A) T.no_len rfl (a_cons (e_var (i := 4) rfl (Or.inl lk_same_other)) a_nil) lk_same_len)) (ss_one (s_ret e_bl)) ss_nil) (ss_one (s_for (i_rg1 T.no_range (a_cons (e_cb (fun _ A => c_len1 A) T.no_len rfl (a_cons (e_var (i := 3) rfl (Or.inl lk_same_one)) a_nil) lk_same_len) a_nil) lk_same_range) (g_nm ⟨nd_same, rfl, Or.inl lk_same_at, Or.inl rfl⟩) (ss_one (s_ex (e_ml (i := 2) PySem.F.slot_list_append PySem.F.type_list_append (fun _ A => m_append A) (a_cons (e_tup (a_cons (e_ix (e_var (i := 3) rfl (Or.inl lk_same_one)) (e_var (i := 5) rfl (Or.inl lk_same_at))) (a_cons (e_ix (e_var (i := 4) rfl (Or.inl lk_same_other)) (e_var (i := 5) rfl (Or.inl lk_same_at))) a_nil))) a_nil) rfl (Or.inl lk_same_waiting)))))))) (ss_one (s_if (t_not (t_tru (e_call h_same_single (a_cons (e_var (i := 3) rfl (Or.inl lk_same_one)) (a_cons (e_var (i := 4) rfl (Or.inl lk_same_other)) a_nil)) lk_same_same_single))) (ss_one (s_ret e_bl)) ss_nil)))))) (ss_one (s_ret e_bl))))
theorem sc_nick_row : FnScope ["a", "b", "parity"] ["a", "b", "parity"] (defScope st_nick_row) := ⟨rfl, rfl, rfl, by decide +kernel, rfl, by decide +kernel, by decide +kernel⟩
theorem nd_nick_row : (["a", "b", "parity"] : List Str).Nodup := sc_nick_row.nd
theorem kd_nick_row : (defScope st_nick_row).kind = .function := rfl
theorem lk_nick_row_a : (defScope st_nick_row).names.lookup ("a" : Str) = some .local := by decide +kernel
theorem lk_nick_row_b : (defScope st_nick_row).names.lookup ("b" : Str) = some .local := by decide +kernel
theorem lk_nick_row_parity : (defScope st_nick_row).names.lookup ("parity" : Str) = some .local := by decide +kernel
theorem cal_nick_row (T : Txt K mg) : Cal0 P w K mg base 1 "nick_row" 3 m_nick_row := by
  refine Cal0.of (k := 0) (m := 0) (f := b_nick_row) T.fn_nick_row sc_nick_row rfl rfl fun H0 => ?_
  exact (ss_cons (s_if (t_cmp (fun _ A => o_eq A) (e_var (i := 0) rfl (Or.inl lk_nick_row_a)) (e_var (i := 1) rfl (Or.inl lk_nick_row_b))) (ss_one (s_ret (e_tup (a_cons (e_tup a_nil) (a_cons (e_var (i := 2) rfl (Or.inl lk_nick_row_parity)) a_nil))))) ss_nil) (ss_one (s_ret (e_tup (a_cons (e_tup (a_cons (e_var (i := 0) rfl (Or.inl lk_nick_row_a)) (a_cons (e_var (i := 1) rfl (Or.inl lk_nick_row_b)) a_nil))) (a_cons (e_var (i := 2) rfl (Or.inl lk_nick_row_parity)) a_nil))))))
theorem sc_nick_rows : FnScope ["pairs", "rows", "item"] ["pairs"] (defScope st_nick_rows) := ⟨rfl, rfl, rfl, by decide +kernel, rfl, by decide +kernel, by decide +kernel⟩
theorem nd_nick_rows : (["pairs", "rows", "item"] : List Str).Nodup := sc_nick_rows.nd
theorem kd_nick_rows : (defScope st_nick_rows).kind = .function := rfl
theorem lk_nick_rows_BadNick : (defScope st_nick_rows).names.lookup ("BadNick" : Str) = some .globalImplicit := by decide +kernel
theorem lk_nick_rows_is_name : (defScope st_nick_rows).names.lookup ("is_name" : Str) = some .globalImplicit := by decide +kernel
theorem lk_nick_rows_is_tuple_of : (defScope st_nick_rows).names.lookup ("is_tuple_of" : Str) = some .globalImplicit := by decide +kernel
theorem lk_nick_rows_isinstance : (defScope st_nick_rows).names.lookup ("isinstance" : Str) = some .globalImplicit := by decide +kernel
theorem lk_nick_rows_item : (defScope st_nick_rows).names.lookup ("item" : Str) = some .local := by decide +kernel
theorem lk_nick_rows_nick_row : (defScope st_nick_rows).names.lookup ("nick_row" : Str) = some .globalImplicit := by decide +kernel
theorem lk_nick_rows_pairs : (defScope st_nick_rows).names.lookup ("pairs" : Str) = some .local := by decide +kernel
theorem lk_nick_rows_rows : (defScope st_nick_rows).names.lookup ("rows" : Str) = some .local := by decide +kernel
theorem lk_nick_rows_same : (defScope st_nick_rows).names.lookup ("same" : Str) = some .globalImplicit := by decide +kernel
theorem lk_nick_rows_tuple : (defScope st_nick_rows).names.lookup ("tuple" : Str) = some .globalImplicit := by decide +kernel
theorem cal_nick_rows (T : Txt K mg) : Cal0 P w K mg base 3 "nick_rows" 1 m_nick_rows := by
  refine Cal0.of (k := 2) (m := 2) (f := b_nick_rows) T.fn_nick_rows sc_nick_rows rfl rfl fun H0 => ?_
  have h_is_tuple_of : Cal ⟨P, w, K, mg, base, ["pairs", "rows", "item"], defScope st_nick_rows, fun _ => true, 2, H0, []⟩ "is_tuple_of" 3 m_is_tuple_of := (cal_is_tuple_of T).cal (by decide)
  have h_is_name : Cal ⟨P, w, K, mg, base, ["pairs", "rows", "item"], defScope st_nick_rows, fun _ => true, 2, H0, []⟩ "is_name" 1 m_is_name := (cal_is_name T).cal (by decide)
  have h_same : Cal ⟨P, w, K, mg, base, ["pairs", "rows", "item"], defScope st_nick_rows, fun _ => true, 2, H0, []⟩ "same" 2 m_same := (cal_same T).cal (by decide)
  have h_nick_row : Cal ⟨P, w, K, mg, base, ["pairs", "rows", "item"], defScope st_nick_rows, fun _ => true, 2, H0, []⟩ "nick_row" 3 m_nick_row := (cal_nick_row T).cal (by decide)
  exact (ss_cons (s_if (t_not (t_isi .tuple rfl T.no_isinstance T.no_tuple (e_var (i := 0) rfl (Or.inl lk_nick_rows_pairs)) lk_nick_rows_isinstance lk_nick_rows_tuple)) (ss_one (s_raise ⟨T.exc_BadNick⟩ lk_nick_rows_BadNick)) ss_nil) (ss_cons (s_set ⟨nd_nick_rows, rfl, Or.inl lk_nick_rows_rows, Or.inl rfl⟩ (e_lst a_nil)) (ss_cons (s_for (i_val (e_var (i := 0) rfl (Or.inl lk_nick_rows_pairs))) (g_nm ⟨nd_nick_rows, rfl, Or.inl lk_nick_rows_item, Or.inl rfl⟩) (ss_cons (s_if (t_w (w_or (t_not (t_tru (e_call h_is_tuple_of (a_cons (e_var (i := 2) rfl (Or.inl lk_nick_rows_item)) (a_cons e_int (a_cons e_int a_nil))) lk_nick_rows_is_tuple_of))) (w_or (t_not (t_tru (e_call h_is_name (a_cons (e_ix (e_var (i := 2) rfl (Or.inl lk_nick_rows_item)) e_int) a_nil) lk_nick_rows_is_name))) (w_or1 (t_not (t_tru (e_call h_is_name (a_cons (e_ix (e_var (i := 2) rfl (Or.inl lk_nick_rows_item)) e_int) a_nil) lk_nick_rows_is_name))))))) (ss_one (s_raise ⟨T.exc_BadNick⟩ lk_nick_rows_BadNick)) ss_nil) (ss_one (s_if (t_tru (e_call h_same (a_cons (e_ix (e_var (i := 2) rfl (Or.inl lk_nick_rows_item)) e_int) (a_cons e_str a_nil)) lk_nick_rows_same)) (ss_one (s_ex (e_ml (i := 1) PySem.F.slot_list_append PySem.F.type_list_append (fun _ A => m_append A) (a_cons (e_call h_nick_row (a_cons (e_ix (e_var (i := 2) rfl (Or.inl lk_nick_rows_item)) e_int) (a_cons (e_ix (e_var (i := 2) rfl (Or.inl lk_nick_rows_item)) e_int) (a_cons e_int a_nil))) lk_nick_rows_nick_row) a_nil) rfl (Or.inl lk_nick_rows_rows)))) (ss_one (s_if (t_tru (e_call h_same (a_cons (e_ix (e_var (i := 2) rfl (Or.inl lk_nick_rows_item)) e_int) (a_cons e_str a_nil)) lk_nick_rows_same)) (ss_one (s_ex (e_ml (i := 1) PySem.F.slot_list_append PySem.F.type_list_append (fun _ A => m_append A) (a_cons (e_call h_nick_row (a_cons (e_ix (e_var (i := 2) rfl (Or.inl lk_nick_rows_item)) e_int) (a_cons (e_ix (e_var (i := 2) rfl (Or.inl lk_nick_rows_item)) e_int) (a_cons e_int a_nil))) lk_nick_rows_nick_row) a_nil) rfl (Or.inl lk_nick_rows_rows)))) (ss_one (s_raise ⟨T.exc_BadNick⟩ lk_nick_rows_BadNick)))))))) (ss_one (s_ret (e_cty (fun _ A => c_tup A) T.no_tuple rfl (a_cons (e_var (i := 1) rfl (Or.inl lk_nick_rows_rows)) a_nil) lk_nick_rows_tuple))))))
theorem sc__law_pairs_refused : FnScope ["pairs"] ["pairs"] (defScope st__law_pairs_refused) := ⟨rfl, rfl, rfl, by decide +kernel, rfl, by decide +kernel, by decide +kernel⟩
theorem nd__law_pairs_refused : (["pairs"] : List Str).Nodup := sc__law_pairs_refused.nd
theorem kd__law_pairs_refused : (defScope st__law_pairs_refused).kind = .function := rfl
theorem lk__law_pairs_refused_BadNick : (defScope st__law_pairs_refused).names.lookup ("BadNick" : Str) = some .globalImplicit := by decide +kernel
theorem lk__law_pairs_refused_nick_rows : (defScope st__law_pairs_refused).names.lookup ("nick_rows" : Str) = some .globalImplicit := by decide +kernel
theorem lk__law_pairs_refused_pairs : (defScope st__law_pairs_refused).names.lookup ("pairs" : Str) = some .local := by decide +kernel
theorem cal__law_pairs_refused (T : Txt K mg) : Cal0 P w K mg base 4 "_law_pairs_refused" 1 m__law_pairs_refused := by
  refine Cal0.of (k := 3) (m := 0) (f := b__law_pairs_refused) T.fn__law_pairs_refused sc__law_pairs_refused rfl rfl fun H0 => ?_
  have h_nick_rows : Cal ⟨P, w, K, mg, base, ["pairs"], defScope st__law_pairs_refused, fun _ => true, 3, H0, []⟩ "nick_rows" 1 m_nick_rows := (cal_nick_rows T).cal (by decide)
  exact (ss_cons (s_tryN ⟨T.cat_BadNick⟩ (ss_one (s_ex (e_call h_nick_rows (a_cons (e_var (i := 0) rfl (Or.inl lk__law_pairs_refused_pairs)) a_nil) lk__law_pairs_refused_nick_rows))) h_bl lk__law_pairs_refused_BadNick) (ss_one (s_ret e_bl)))
theorem sc_is_nicking : FnScope ["names", "bits", "bit"] ["names", "bits"] (defScope st_is_nicking) := ⟨rfl, rfl, rfl, by decide +kernel, rfl, by decide +kernel, by decide +kernel⟩
theorem nd_is_nicking : (["names", "bits", "bit"] : List Str).Nodup := sc_is_nicking.nd
theorem kd_is_nicking : (defScope st_is_nicking).kind = .function := rfl
theorem lk_is_nicking_bit : (defScope st_is_nicking).names.lookup ("bit" : Str) = some .local := by decide +kernel
theorem lk_is_nicking_bits : (defScope st_is_nicking).names.lookup ("bits" : Str) = some .local := by decide +kernel
theorem lk_is_nicking_is_tuple_of : (defScope st_is_nicking).names.lookup ("is_tuple_of" : Str) = some .globalImplicit := by decide +kernel
theorem lk_is_nicking_is_whole_in : (defScope st_is_nicking).names.lookup ("is_whole_in" : Str) = some .globalImplicit := by decide +kernel
theorem lk_is_nicking_len : (defScope st_is_nicking).names.lookup ("len" : Str) = some .globalImplicit := by decide +kernel
theorem lk_is_nicking_names : (defScope st_is_nicking).names.lookup ("names" : Str) = some .local := by decide +kernel
theorem cal_is_nicking (T : Txt K mg) : Cal0 P w K mg base 3 "is_nicking" 2 m_is_nicking := by
  refine Cal0.of (k := 2) (m := 1) (f := b_is_nicking) T.fn_is_nicking sc_is_nicking rfl rfl fun H0 => ?_
  have h_is_tuple_of : Cal ⟨P, w, K, mg, base, ["names", "bits", "bit"], defScope st_is_nicking, fun _ => true, 2, H0, []⟩ "is_tuple_of" 3 m_is_tuple_of := (cal_is_tuple_of T).cal (by decide)
  have h_is_whole_in : Cal ⟨P, w, K, mg, base, ["names", "bits", "bit"], defScope st_is_nicking, fun _ => true, 2, H0, []⟩ "is_whole_in" 3 m_is_whole_in := (cal_is_whole_in T).cal (by decide)
  exact (ss_cons (s_if (t_not (t_tru (e_call h_is_tuple_of (a_cons (e_var (i := 1) rfl (Or.inl lk_is_nicking_bits)) (a_cons (e_cb (fun _ A => c_len1 A) T.no_len rfl (a_cons (e_var (i := 0) rfl (Or.inl lk_is_nicking_names)) a_nil) lk_is_nicking_len) (a_cons (e_cb (fun _ A => c_len1 A) T.no_len rfl (a_cons (e_var (i := 0) rfl (Or.inl lk_is_nicking_names)) a_nil) lk_is_nicking_len) a_nil))) lk_is_nicking_is_tuple_of))) (ss_one (s_ret e_bl)) ss_nil) (ss_cons (s_for (i_val (e_var (i := 1) rfl (Or.inl lk_is_nicking_bits))) (g_nm ⟨nd_is_nicking, rfl, Or.inl lk_is_nicking_bit, Or.inl rfl⟩) (ss_one (s_if (t_not (t_tru (e_call h_is_whole_in (a_cons (e_var (i := 2) rfl (Or.inl lk_is_nicking_bit)) (a_cons e_int (a_cons e_int a_nil))) lk_is_nicking_is_whole_in))) (ss_one (s_ret e_bl)) ss_nil))) (ss_one (s_ret e_bl))))
theorem sc_keeps : FnScope ["subject", "bits", "nicks", "names", "rows", "members", "parity", "name", "bit"] ["subject", "bits"] (defScope st_keeps) := ⟨rfl, rfl, rfl, by decide +kernel, rfl, by decide +kernel, by decide +kernel⟩
theorem nd_keeps : (["subject", "bits", "nicks", "names", "rows", "members", "parity", "name", "bit"] : List Str).Nodup := sc_keeps.nd
theorem kd_keeps : (defScope st_keeps).kind = .function := rfl
theorem lk_keeps_bits : (defScope st_keeps).names.lookup ("bits" : Str) = some .local := by decide +kernel
theorem lk_keeps_check_nicks : (defScope st_keeps).names.lookup ("check_nicks" : Str) = some .globalImplicit := by decide +kernel
theorem lk_keeps_is_nicking : (defScope st_keeps).names.lookup ("is_nicking" : Str) = some .globalImplicit := by decide +kernel
theorem lk_keeps_members : (defScope st_keeps).names.lookup ("members" : Str) = some .local := by decide +kernel
theorem lk_keeps_names : (defScope st_keeps).names.lookup ("names" : Str) = some .local := by decide +kernel
theorem lk_keeps_nicks : (defScope st_keeps).names.lookup ("nicks" : Str) = some .cell := by decide +kernel
theorem lk_keeps_parity : (defScope st_keeps).names.lookup ("parity" : Str) = some .local := by decide +kernel
theorem lk_keeps_rows : (defScope st_keeps).names.lookup ("rows" : Str) = some .local := by decide +kernel
theorem lk_keeps_subject : (defScope st_keeps).names.lookup ("subject" : Str) = some .local := by decide +kernel
theorem lk_keeps_sum : (defScope st_keeps).names.lookup ("sum" : Str) = some .globalImplicit := by decide +kernel
theorem lk_keeps_zip : (defScope st_keeps).names.lookup ("zip" : Str) = some .globalImplicit := by decide +kernel
theorem cal_keeps (T : Txt K mg) : Cal0 P w K mg base 4 "keeps" 2 m_keeps := by
  refine Cal0.of (k := 3) (m := 7) (f := b_keeps) T.fn_keeps sc_keeps rfl rfl fun H0 => ?_
  have h_check_nicks : Cal ⟨P, w, K, mg, base, ["subject", "bits", "nicks", "names", "rows", "members", "parity", "name", "bit"], defScope st_keeps, fun _ => true, 3, H0, []⟩ "check_nicks" 1 m_check_nicks := (cal_check_nicks T).cal (by decide)
  have h_is_nicking : Cal ⟨P, w, K, mg, base, ["subject", "bits", "nicks", "names", "rows", "members", "parity", "name", "bit"], defScope st_keeps, fun _ => true, 3, H0, []⟩ "is_nicking" 2 m_is_nicking := (cal_is_nicking T).cal (by decide)
  exact (ss_cons (s_ex (e_call h_check_nicks (a_cons (e_var (i := 0) rfl (Or.inl lk_keeps_subject)) a_nil) lk_keeps_check_nicks)) (ss_cons (s_asg (e_var (i := 0) rfl (Or.inl lk_keeps_subject)) (g_tp (gs_cons (g_nm ⟨nd_keeps, rfl, Or.inl lk_keeps_names, Or.inl rfl⟩) (gs_cons (g_nm ⟨nd_keeps, rfl, Or.inl lk_keeps_rows, Or.inl rfl⟩) gs_nil)))) (ss_cons (s_if (t_not (t_tru (e_call h_is_nicking (a_cons (e_var (i := 3) rfl (Or.inl lk_keeps_names)) (a_cons (e_var (i := 1) rfl (Or.inl lk_keeps_bits)) a_nil)) lk_keeps_is_nicking))) (ss_one (s_ret e_bl)) ss_nil) (ss_cons (s_set ⟨nd_keeps, rfl, Or.inr lk_keeps_nicks, Or.inl rfl⟩ (e_dc (own := [("name", 7), ("bit", 8)]) nd_keeps (by dsimp only; decide +kernel) rfl rfl (i_zp T.no_zip (a_cons (e_var (i := 3) rfl (Or.inl lk_keeps_names)) (a_cons (e_var (i := 1) rfl (Or.inl lk_keeps_bits)) a_nil)) lk_keeps_zip) (fun _ => (g_tp (gs_cons (g_nm ⟨nd_keeps, rfl, (by first | exact Or.inl rfl | exact Or.inr rfl), (by first | exact Or.inl rfl | exact Or.inr rfl)⟩) (gs_cons (g_nm ⟨nd_keeps, rfl, (by first | exact Or.inl rfl | exact Or.inr rfl), (by first | exact Or.inl rfl | exact Or.inr rfl)⟩) gs_nil)))) (fun _ => ts_no) (fun _ => (e_var (i := 7) rfl )) (fun _ => (e_var (i := 8) rfl ))) (fun _ h => swD_cell (by rw [h]; exact lk_keeps_nicks))) (ss_cons (s_for (i_val (e_var (i := 4) rfl (Or.inl lk_keeps_rows))) (g_tp (gs_cons (g_nm ⟨nd_keeps, rfl, Or.inl lk_keeps_members, Or.inl rfl⟩) (gs_cons (g_nm ⟨nd_keeps, rfl, Or.inl lk_keeps_parity, Or.inl rfl⟩) gs_nil))) (ss_one (s_if (t_cmp (fun _ A => o_ne A) (e_bin (fun _ A => o_mod A) (e_cb (fun _ A => c_sum A) T.no_sum rfl (a_cons (e_lc (own := [("name", 7)]) nd_keeps (by dsimp only; decide +kernel) rfl rfl (i_val (e_var (i := 5) rfl (Or.inl lk_keeps_members))) (fun _ => (g_nm ⟨nd_keeps, rfl, (by first | exact Or.inl rfl | exact Or.inr rfl), (by first | exact Or.inl rfl | exact Or.inr rfl)⟩)) (fun _ => ts_no) (fun _ => (e_ix (e_var (i := 2) rfl ) (e_var (i := 7) rfl )))) a_nil) lk_keeps_sum) e_int) (e_var (i := 6) rfl (Or.inl lk_keeps_parity))) (ss_one (s_ret e_bl)) ss_nil))) (ss_one (s_ret e_bl)))))))
theorem sc__law_keeps : FnScope ["names", "rows", "bits", "members", "parity", "at"] ["names", "rows", "bits"] (defScope st__law_keeps) := ⟨rfl, rfl, rfl, by decide +kernel, rfl, by decide +kernel, by decide +kernel⟩
theorem nd__law_keeps : (["names", "rows", "bits", "members", "parity", "at"] : List Str).Nodup := sc__law_keeps.nd
theorem kd__law_keeps : (defScope st__law_keeps).kind = .function := rfl
theorem lk__law_keeps_len : (defScope st__law_keeps).names.lookup ("len" : Str) = some .globalImplicit := by decide +kernel
theorem lk__law_keeps_members : (defScope st__law_keeps).names.lookup ("members" : Str) = some .cell := by decide +kernel
theorem lk__law_keeps_names : (defScope st__law_keeps).names.lookup ("names" : Str) = some .cell := by decide +kernel
theorem lk__law_keeps_parity : (defScope st__law_keeps).names.lookup ("parity" : Str) = some .local := by decide +kernel
theorem lk__law_keeps_range : (defScope st__law_keeps).names.lookup ("range" : Str) = some .globalImplicit := by decide +kernel
theorem lk__law_keeps_rows : (defScope st__law_keeps).names.lookup ("rows" : Str) = some .local := by decide +kernel
theorem lk__law_keeps_sum : (defScope st__law_keeps).names.lookup ("sum" : Str) = some .globalImplicit := by decide +kernel
theorem cal__law_keeps (T : Txt K mg) : Cal0 P w K mg base 1 "_law_keeps" 3 m__law_keeps := by
  refine Cal0.of (k := 0) (m := 3) (f := b__law_keeps) T.fn__law_keeps sc__law_keeps rfl rfl fun H0 => ?_
  exact (ss_cons (s_for (i_val (e_var (i := 1) rfl (Or.inl lk__law_keeps_rows))) (g_tp (gs_cons (g_nm ⟨nd__law_keeps, rfl, Or.inr lk__law_keeps_members, Or.inl rfl⟩) (gs_cons (g_nm ⟨nd__law_keeps, rfl, Or.inl lk__law_keeps_parity, Or.inl rfl⟩) gs_nil))) (ss_one (s_if (t_cmp (fun _ A => o_ne A) (e_bin (fun _ A => o_mod A) (e_cb (fun _ A => c_sum A) T.no_sum rfl (a_cons (e_lc (own := [("at", 5)]) nd__law_keeps (by dsimp only; decide +kernel) rfl rfl (i_rg1 T.no_range (a_cons (e_cb (fun _ A => c_len1 A) T.no_len rfl (a_cons (e_var (i := 0) rfl (Or.inr (Or.inl lk__law_keeps_names))) a_nil) lk__law_keeps_len) a_nil) lk__law_keeps_range) (fun _ => (g_nm ⟨nd__law_keeps, rfl, (by first | exact Or.inl rfl | exact Or.inr rfl), (by first | exact Or.inl rfl | exact Or.inr rfl)⟩)) (fun _ => (ts_one (t_cmp (fun _ A => o_in A) (e_ix (e_var (i := 0) rfl ) (e_var (i := 5) rfl )) (e_var (i := 3) rfl )))) (fun _ => (e_ix (e_var (i := 2) rfl ) (e_var (i := 5) rfl )))) a_nil) lk__law_keeps_sum) e_int) (e_var (i := 4) rfl (Or.inl lk__law_keeps_parity))) (ss_one (s_ret e_bl)) ss_nil))) (ss_one (s_ret e_bl)))
theorem sc_added : FnScope ["first", "second", "one", "other"] ["first", "second"] (defScope st_added) := ⟨rfl, rfl, rfl, by decide +kernel, rfl, by decide +kernel, by decide +kernel⟩
theorem nd_added : (["first", "second", "one", "other"] : List Str).Nodup := sc_added.nd
theorem kd_added : (defScope st_added).kind = .function := rfl
theorem lk_added_first : (defScope st_added).names.lookup ("first" : Str) = some .local := by decide +kernel
theorem lk_added_second : (defScope st_added).names.lookup ("second" : Str) = some .local := by decide +kernel
theorem lk_added_zip : (defScope st_added).names.lookup ("zip" : Str) = some .globalImplicit := by decide +kernel
theorem cal_added (T : Txt K mg) : Cal0 P w K mg base 1 "added" 2 m_added := by
  refine Cal0.of (k := 0) (m := 2) (f := b_added) T.fn_added sc_added rfl rfl fun H0 => ?_
  exact (ss_one (s_ret (e_lc (own := [("one", 2), ("other", 3)]) nd_added (by dsimp only; decide +kernel) rfl rfl (i_zp T.no_zip (a_cons (e_var (i := 0) rfl (Or.inl lk_added_first)) (a_cons (e_var (i := 1) rfl (Or.inl lk_added_second)) a_nil)) lk_added_zip) (fun _ => (g_tp (gs_cons (g_nm ⟨nd_added, rfl, (by first | exact Or.inl rfl | exact Or.inr rfl), (by first | exact Or.inl rfl | exact Or.inr rfl)⟩) (gs_cons (g_nm ⟨nd_added, rfl, (by first | exact Or.inl rfl | exact Or.inr rfl), (by first | exact Or.inl rfl | exact Or.inr rfl)⟩) gs_nil)))) (fun _ => ts_no) (fun _ => (e_bin (fun _ A => o_bxor A) (e_var (i := 2) rfl ) (e_var (i := 3) rfl ))))))
theorem sc_without_leads : FnScope ["line", "leads", "count", "at"] ["line", "leads", "count"] (defScope st_without_leads) := ⟨rfl, rfl, rfl, by decide +kernel, rfl, by decide +kernel, by decide +kernel⟩
theorem nd_without_leads : (["line", "leads", "count", "at"] : List Str).Nodup := sc_without_leads.nd
theorem kd_without_leads : (defScope st_without_leads).kind = .function := rfl
theorem lk_without_leads_added : (defScope st_without_leads).names.lookup ("added" : Str) = some .globalImplicit := by decide +kernel
theorem lk_without_leads_at : (defScope st_without_leads).names.lookup ("at" : Str) = some .local := by decide +kernel
theorem lk_without_leads_count : (defScope st_without_leads).names.lookup ("count" : Str) = some .local := by decide +kernel
theorem lk_without_leads_leads : (defScope st_without_leads).names.lookup ("leads" : Str) = some .local := by decide +kernel
theorem lk_without_leads_line : (defScope st_without_leads).names.lookup ("line" : Str) = some .local := by decide +kernel
theorem lk_without_leads_range : (defScope st_without_leads).names.lookup ("range" : Str) = some .globalImplicit := by decide +kernel
theorem cal_without_leads (T : Txt K mg) : Cal0 P w K mg base 2 "without_leads" 3 m_without_leads := by
  refine Cal0.of (k := 1) (m := 1) (f := b_without_leads) T.fn_without_leads sc_without_leads rfl rfl fun H0 => ?_
  have h_added : Cal ⟨P, w, K, mg, base, ["line", "leads", "count", "at"], defScope st_without_leads, fun _ => true, 1, H0, []⟩ "added" 2 m_added := (cal_added T).cal (by decide)
  exact (ss_cons (s_for (i_rg1 T.no_range (a_cons (e_var (i := 2) rfl (Or.inl lk_without_leads_count)) a_nil) lk_without_leads_range) (g_nm ⟨nd_without_leads, rfl, Or.inl lk_without_leads_at, Or.inl rfl⟩) (ss_one (s_if (t_w (w_and (t_cmp (fun _ A => o_in A) (e_var (i := 3) rfl (Or.inl lk_without_leads_at)) (e_var (i := 1) rfl (Or.inl lk_without_leads_leads))) (w_and1 (t_cmp (fun _ A => o_eq A) (e_ix (e_var (i := 0) rfl (Or.inl lk_without_leads_line)) (e_var (i := 3) rfl (Or.inl lk_without_leads_at))) e_int)))) (ss_one (s_set ⟨nd_without_leads, rfl, Or.inl lk_without_leads_line, Or.inl rfl⟩ (e_call h_added (a_cons (e_var (i := 0) rfl (Or.inl lk_without_leads_line)) (a_cons (e_ix (e_var (i := 1) rfl (Or.inl lk_without_leads_leads)) (e_var (i := 3) rfl (Or.inl lk_without_leads_at))) a_nil)) lk_without_leads_added))) ss_nil))) (ss_one (s_ret (e_var (i := 0) rfl (Or.inl lk_without_leads_line)))))
theorem sc_last_name : FnScope ["line", "count", "at"] ["line", "count"] (defScope st_last_name) := ⟨rfl, rfl, rfl, by decide +kernel, rfl, by decide +kernel, by decide +kernel⟩
theorem nd_last_name : (["line", "count", "at"] : List Str).Nodup := sc_last_name.nd
theorem kd_last_name : (defScope st_last_name).kind = .function := rfl
theorem cal_last_name (T : Txt K mg) : Cal0 P w K mg base 1 "last_name" 2 m_last_name := by
  refine Cal0.of (k := 0) (m := 1) (f := b_last_name) T.fn_last_name sc_last_name rfl rfl fun H0 => ?_
  exact (ss_cons s_stk (ss_one (s_ret (e_un (fun _ A => o_neg A) e_int))))
theorem sc_line_of : FnScope ["subject", "index", "names", "rows", "members", "parity", "at", "name"] ["subject", "index"] (defScope st_line_of) := ⟨rfl, rfl, rfl, by decide +kernel, rfl, by decide +kernel, by decide +kernel⟩
theorem nd_line_of : (["subject", "index", "names", "rows", "members", "parity", "at", "name"] : List Str).Nodup := sc_line_of.nd
theorem kd_line_of : (defScope st_line_of).kind = .function := rfl
theorem lk_line_of_index : (defScope st_line_of).names.lookup ("index" : Str) = some .cell := by decide +kernel
theorem lk_line_of_len : (defScope st_line_of).names.lookup ("len" : Str) = some .globalImplicit := by decide +kernel
theorem lk_line_of_members : (defScope st_line_of).names.lookup ("members" : Str) = some .cell := by decide +kernel
theorem lk_line_of_names : (defScope st_line_of).names.lookup ("names" : Str) = some .local := by decide +kernel
theorem lk_line_of_parity : (defScope st_line_of).names.lookup ("parity" : Str) = some .local := by decide +kernel
theorem lk_line_of_range : (defScope st_line_of).names.lookup ("range" : Str) = some .globalImplicit := by decide +kernel
theorem lk_line_of_rows : (defScope st_line_of).names.lookup ("rows" : Str) = some .local := by decide +kernel
theorem lk_line_of_subject : (defScope st_line_of).names.lookup ("subject" : Str) = some .local := by decide +kernel
theorem cal_line_of (T : Txt K mg) : Cal0 P w K mg base 1 "line_of" 2 m_line_of := by
  refine Cal0.of (k := 0) (m := 6) (f := b_line_of) T.fn_line_of sc_line_of rfl rfl fun H0 => ?_
  exact (ss_cons (s_asg (e_var (i := 0) rfl (Or.inl lk_line_of_subject)) (g_tp (gs_cons (g_nm ⟨nd_line_of, rfl, Or.inl lk_line_of_names, Or.inl rfl⟩) (gs_cons (g_nm ⟨nd_line_of, rfl, Or.inl lk_line_of_rows, Or.inl rfl⟩) gs_nil)))) (ss_cons (s_asg (e_ix (e_var (i := 3) rfl (Or.inl lk_line_of_rows)) (e_var (i := 1) rfl (Or.inr (Or.inl lk_line_of_index)))) (g_tp (gs_cons (g_nm ⟨nd_line_of, rfl, Or.inr lk_line_of_members, Or.inl rfl⟩) (gs_cons (g_nm ⟨nd_line_of, rfl, Or.inl lk_line_of_parity, Or.inl rfl⟩) gs_nil)))) (ss_one (s_ret (e_bin (fun _ A => o_add A) (e_bin (fun _ A => o_add A) (e_lc (own := [("name", 7)]) nd_line_of (by dsimp only; decide +kernel) rfl rfl (i_val (e_var (i := 2) rfl (Or.inl lk_line_of_names))) (fun _ => (g_nm ⟨nd_line_of, rfl, (by first | exact Or.inl rfl | exact Or.inr rfl), (by first | exact Or.inl rfl | exact Or.inr rfl)⟩)) (fun _ => ts_no) (fun _ => (e_cty (fun _ A => c_int A) T.no_int rfl (a_cons (e_cmp (fun _ A => o_in A) (e_var (i := 7) rfl ) (e_var (i := 4) rfl )) a_nil) ))) (e_lst (a_cons (e_var (i := 5) rfl (Or.inl lk_line_of_parity)) a_nil))) (e_lc (own := [("at", 6)]) nd_line_of (by dsimp only; decide +kernel) rfl rfl (i_rg1 T.no_range (a_cons (e_cb (fun _ A => c_len1 A) T.no_len rfl (a_cons (e_var (i := 3) rfl (Or.inl lk_line_of_rows)) a_nil) lk_line_of_len) a_nil) lk_line_of_range) (fun _ => (g_nm ⟨nd_line_of, rfl, (by first | exact Or.inl rfl | exact Or.inr rfl), (by first | exact Or.inl rfl | exact Or.inr rfl)⟩)) (fun _ => ts_no) (fun _ => (e_cty (fun _ A => c_int A) T.no_int rfl (a_cons (e_cmp (fun _ A => o_eq A) (e_var (i := 6) rfl ) (e_var (i := 1) rfl )) a_nil) ))))))))
theorem sc_solved : FnScope ["subject", "count", "leads", "index", "names", "rows", "line", "last", "at"] ["subject"] (defScope st_solved) := ⟨rfl, rfl, rfl, by decide +kernel, rfl, by decide +kernel, by decide +kernel⟩
theorem nd_solved : (["subject", "count", "leads", "index", "names", "rows", "line", "last", "at"] : List Str).Nodup := sc_solved.nd
theorem kd_solved : (defScope st_solved).kind = .function := rfl
theorem lk_solved_added : (defScope st_solved).names.lookup ("added" : Str) = some .globalImplicit := by decide +kernel
theorem lk_solved_at : (defScope st_solved).names.lookup ("at" : Str) = some .local := by decide +kernel
theorem lk_solved_count : (defScope st_solved).names.lookup ("count" : Str) = some .local := by decide +kernel
theorem lk_solved_index : (defScope st_solved).names.lookup ("index" : Str) = some .local := by decide +kernel
theorem lk_solved_last : (defScope st_solved).names.lookup ("last" : Str) = some .local := by decide +kernel
theorem lk_solved_last_name : (defScope st_solved).names.lookup ("last_name" : Str) = some .globalImplicit := by decide +kernel
theorem lk_solved_leads : (defScope st_solved).names.lookup ("leads" : Str) = some .local := by decide +kernel
theorem lk_solved_len : (defScope st_solved).names.lookup ("len" : Str) = some .globalImplicit := by decide +kernel
theorem lk_solved_line : (defScope st_solved).names.lookup ("line" : Str) = some .local := by decide +kernel
theorem lk_solved_line_of : (defScope st_solved).names.lookup ("line_of" : Str) = some .globalImplicit := by decide +kernel
theorem lk_solved_names : (defScope st_solved).names.lookup ("names" : Str) = some .local := by decide +kernel
theorem lk_solved_range : (defScope st_solved).names.lookup ("range" : Str) = some .globalImplicit := by decide +kernel
theorem lk_solved_rows : (defScope st_solved).names.lookup ("rows" : Str) = some .local := by decide +kernel
theorem lk_solved_subject : (defScope st_solved).names.lookup ("subject" : Str) = some .local := by decide +kernel
theorem lk_solved_without_leads : (defScope st_solved).names.lookup ("without_leads" : Str) = some .globalImplicit := by decide +kernel
theorem cal_solved (T : Txt K mg) : Cal0 P w K mg base 3 "solved" 1 m_solved := by
  refine Cal0.of (k := 2) (m := 8) (f := b_solved) T.fn_solved sc_solved rfl rfl fun H0 => ?_
  have h_added : Cal ⟨P, w, K, mg, base, ["subject", "count", "leads", "index", "names", "rows", "line", "last", "at"], defScope st_solved, fun _ => true, 2, H0, []⟩ "added" 2 m_added := (cal_added T).cal (by decide)
  have h_without_leads : Cal ⟨P, w, K, mg, base, ["subject", "count", "leads", "index", "names", "rows", "line", "last", "at"], defScope st_solved, fun _ => true, 2, H0, []⟩ "without_leads" 3 m_without_leads := (cal_without_leads T).cal (by decide)
  have h_last_name : Cal ⟨P, w, K, mg, base, ["subject", "count", "leads", "index", "names", "rows", "line", "last", "at"], defScope st_solved, fun _ => true, 2, H0, []⟩ "last_name" 2 m_last_name := (cal_last_name T).cal (by decide)
  have h_line_of : Cal ⟨P, w, K, mg, base, ["subject", "count", "leads", "index", "names", "rows", "line", "last", "at"], defScope st_solved, fun _ => true, 2, H0, []⟩ "line_of" 2 m_line_of := (cal_line_of T).cal (by decide)
  exact (ss_cons (s_asg (e_var (i := 0) rfl (Or.inl lk_solved_subject)) (g_tp (gs_cons (g_nm ⟨nd_solved, rfl, Or.inl lk_solved_names, Or.inl rfl⟩) (gs_cons (g_nm ⟨nd_solved, rfl, Or.inl lk_solved_rows, Or.inl rfl⟩) gs_nil)))) (ss_cons (s_set ⟨nd_solved, rfl, Or.inl lk_solved_count, Or.inl rfl⟩ (e_cb (fun _ A => c_len1 A) T.no_len rfl (a_cons (e_var (i := 4) rfl (Or.inl lk_solved_names)) a_nil) lk_solved_len)) (ss_cons (s_set ⟨nd_solved, rfl, Or.inl lk_solved_leads, Or.inl rfl⟩ e_dnewK) (ss_cons (s_for (i_rg1 T.no_range (a_cons (e_cb (fun _ A => c_len1 A) T.no_len rfl (a_cons (e_var (i := 5) rfl (Or.inl lk_solved_rows)) a_nil) lk_solved_len) a_nil) lk_solved_range) (g_nm ⟨nd_solved, rfl, Or.inl lk_solved_index, Or.inl rfl⟩) (ss_cons (s_set ⟨nd_solved, rfl, Or.inl lk_solved_line, Or.inl rfl⟩ (e_call h_without_leads (a_cons (e_call h_line_of (a_cons (e_var (i := 0) rfl (Or.inl lk_solved_subject)) (a_cons (e_var (i := 3) rfl (Or.inl lk_solved_index)) a_nil)) lk_solved_line_of) (a_cons (e_var (i := 2) rfl (Or.inl lk_solved_leads)) (a_cons (e_var (i := 1) rfl (Or.inl lk_solved_count)) a_nil))) lk_solved_without_leads)) (ss_cons (s_set ⟨nd_solved, rfl, Or.inl lk_solved_last, Or.inl rfl⟩ (e_call h_last_name (a_cons (e_var (i := 6) rfl (Or.inl lk_solved_line)) (a_cons (e_var (i := 1) rfl (Or.inl lk_solved_count)) a_nil)) lk_solved_last_name)) (ss_cons (s_if (t_w (w_and (t_cmp (fun _ A => o_eq A) (e_var (i := 7) rfl (Or.inl lk_solved_last)) (e_un (fun _ A => o_neg A) e_int)) (w_and1 (t_cmp (fun _ A => o_eq A) (e_ix (e_var (i := 6) rfl (Or.inl lk_solved_line)) (e_var (i := 1) rfl (Or.inl lk_solved_count))) e_int)))) (ss_one (s_ret (e_tup (a_cons (e_var (i := 2) rfl (Or.inl lk_solved_leads)) (a_cons (e_var (i := 6) rfl (Or.inl lk_solved_line)) a_nil))))) ss_nil) (ss_one (s_if (t_cmp (fun _ A => o_ne A) (e_var (i := 7) rfl (Or.inl lk_solved_last)) (e_un (fun _ A => o_neg A) e_int)) (ss_cons (s_for (i_rg1 T.no_range (a_cons (e_var (i := 1) rfl (Or.inl lk_solved_count)) a_nil) lk_solved_range) (g_nm ⟨nd_solved, rfl, Or.inl lk_solved_at, Or.inl rfl⟩) (ss_one (s_if (t_w (w_and (t_cmp (fun _ A => o_in A) (e_var (i := 8) rfl (Or.inl lk_solved_at)) (e_var (i := 2) rfl (Or.inl lk_solved_leads))) (w_and1 (t_cmp (fun _ A => o_eq A) (e_ix (e_ix (e_var (i := 2) rfl (Or.inl lk_solved_leads)) (e_var (i := 8) rfl (Or.inl lk_solved_at))) (e_var (i := 7) rfl (Or.inl lk_solved_last))) e_int)))) (ss_one (s_asg (e_call h_added (a_cons (e_ix (e_var (i := 2) rfl (Or.inl lk_solved_leads)) (e_var (i := 8) rfl (Or.inl lk_solved_at))) (a_cons (e_var (i := 6) rfl (Or.inl lk_solved_line)) a_nil)) lk_solved_added) (g_sub (i := 2) (e_var (i := 8) rfl (Or.inl lk_solved_at)) rfl (Or.inl lk_solved_leads)))) ss_nil))) (ss_one (s_asg (e_var (i := 6) rfl (Or.inl lk_solved_line)) (g_sub (i := 2) (e_var (i := 7) rfl (Or.inl lk_solved_last)) rfl (Or.inl lk_solved_leads))))) ss_nil)))))) (ss_one (s_ret (e_tup (a_cons (e_var (i := 2) rfl (Or.inl lk_solved_leads)) (a_cons e_non a_nil)))))))))
theorem sc_settle_nicks : FnScope ["subject", "count", "bits", "at", "names", "rows", "leads", "clash", "name", "index"] ["subject"] (defScope st_settle_nicks) := ⟨rfl, rfl, rfl, by decide +kernel, rfl, by decide +kernel, by decide +kernel⟩
theorem nd_settle_nicks : (["subject", "count", "bits", "at", "names", "rows", "leads", "clash", "name", "index"] : List Str).Nodup := sc_settle_nicks.nd
theorem kd_settle_nicks : (defScope st_settle_nicks).kind = .function := rfl
theorem lk_settle_nicks_at : (defScope st_settle_nicks).names.lookup ("at" : Str) = some .local := by decide +kernel
theorem lk_settle_nicks_bits : (defScope st_settle_nicks).names.lookup ("bits" : Str) = some .local := by decide +kernel
theorem lk_settle_nicks_check_nicks : (defScope st_settle_nicks).names.lookup ("check_nicks" : Str) = some .globalImplicit := by decide +kernel
theorem lk_settle_nicks_clash : (defScope st_settle_nicks).names.lookup ("clash" : Str) = some .cell := by decide +kernel
theorem lk_settle_nicks_count : (defScope st_settle_nicks).names.lookup ("count" : Str) = some .cell := by decide +kernel
theorem lk_settle_nicks_leads : (defScope st_settle_nicks).names.lookup ("leads" : Str) = some .local := by decide +kernel
theorem lk_settle_nicks_len : (defScope st_settle_nicks).names.lookup ("len" : Str) = some .globalImplicit := by decide +kernel
theorem lk_settle_nicks_names : (defScope st_settle_nicks).names.lookup ("names" : Str) = some .local := by decide +kernel
theorem lk_settle_nicks_range : (defScope st_settle_nicks).names.lookup ("range" : Str) = some .globalImplicit := by decide +kernel
theorem lk_settle_nicks_rows : (defScope st_settle_nicks).names.lookup ("rows" : Str) = some .local := by decide +kernel
theorem lk_settle_nicks_solved : (defScope st_settle_nicks).names.lookup ("solved" : Str) = some .globalImplicit := by decide +kernel
theorem lk_settle_nicks_subject : (defScope st_settle_nicks).names.lookup ("subject" : Str) = some .local := by decide +kernel
theorem lk_settle_nicks_tuple : (defScope st_settle_nicks).names.lookup ("tuple" : Str) = some .globalImplicit := by decide +kernel
theorem cal_settle_nicks (T : Txt K mg) : Cal0 P w K mg base 4 "settle_nicks" 1 m_settle_nicks := by
  refine Cal0.of (k := 3) (m := 9) (f := b_settle_nicks) T.fn_settle_nicks sc_settle_nicks rfl rfl fun H0 => ?_
  have h_check_nicks : Cal ⟨P, w, K, mg, base, ["subject", "count", "bits", "at", "names", "rows", "leads", "clash", "name", "index"], defScope st_settle_nicks, fun _ => true, 3, H0, []⟩ "check_nicks" 1 m_check_nicks := (cal_check_nicks T).cal (by decide)
  have h_solved : Cal ⟨P, w, K, mg, base, ["subject", "count", "bits", "at", "names", "rows", "leads", "clash", "name", "index"], defScope st_settle_nicks, fun _ => true, 3, H0, []⟩ "solved" 1 m_solved := (cal_solved T).cal (by decide)
  exact (ss_cons (s_ex (e_call h_check_nicks (a_cons (e_var (i := 0) rfl (Or.inl lk_settle_nicks_subject)) a_nil) lk_settle_nicks_check_nicks)) (ss_cons (s_asg (e_var (i := 0) rfl (Or.inl lk_settle_nicks_subject)) (g_tp (gs_cons (g_nm ⟨nd_settle_nicks, rfl, Or.inl lk_settle_nicks_names, Or.inl rfl⟩) (gs_cons (g_nm ⟨nd_settle_nicks, rfl, Or.inl lk_settle_nicks_rows, Or.inl rfl⟩) gs_nil)))) (ss_cons (s_set ⟨nd_settle_nicks, rfl, Or.inr lk_settle_nicks_count, Or.inl rfl⟩ (e_cb (fun _ A => c_len1 A) T.no_len rfl (a_cons (e_var (i := 4) rfl (Or.inl lk_settle_nicks_names)) a_nil) lk_settle_nicks_len)) (ss_cons (s_asg (e_call h_solved (a_cons (e_var (i := 0) rfl (Or.inl lk_settle_nicks_subject)) a_nil) lk_settle_nicks_solved) (g_tp (gs_cons (g_nm ⟨nd_settle_nicks, rfl, Or.inl lk_settle_nicks_leads, Or.inl rfl⟩) (gs_cons (g_nm ⟨nd_settle_nicks, rfl, Or.inr lk_settle_nicks_clash, Or.inl rfl⟩) gs_nil)))) (ss_cons (s_if (t_cmp (fun _ A => o_isnot A) (e_var (i := 7) rfl (Or.inr (Or.inl lk_settle_nicks_clash))) e_non) (ss_one (s_ret (e_tup (a_cons e_str (a_cons (e_cty (fun _ A => c_tup A) T.no_tuple rfl (a_cons (e_lc (own := [("index", 9)]) nd_settle_nicks (by dsimp only; decide +kernel) rfl rfl (i_rg1 T.no_range (a_cons (e_cb (fun _ A => c_len1 A) T.no_len rfl (a_cons (e_var (i := 5) rfl (Or.inl lk_settle_nicks_rows)) a_nil) lk_settle_nicks_len) a_nil) lk_settle_nicks_range) (fun _ => (g_nm ⟨nd_settle_nicks, rfl, (by first | exact Or.inl rfl | exact Or.inr rfl), (by first | exact Or.inl rfl | exact Or.inr rfl)⟩)) (fun _ => (ts_one (t_cmp (fun _ A => o_eq A) (e_ix (e_var (i := 7) rfl ) (e_bin (fun _ A => o_add A) (e_bin (fun _ A => o_add A) (e_var (i := 1) rfl ) e_int) (e_var (i := 9) rfl ))) e_int))) (fun _ => (e_var (i := 9) rfl ))) a_nil) lk_settle_nicks_tuple) a_nil))))) ss_nil) (ss_cons (s_lc (own := [("name", 8)]) ⟨nd_settle_nicks, rfl, Or.inl lk_settle_nicks_bits, Or.inl rfl⟩ lk_settle_nicks_bits rfl (by decide +kernel) kd_settle_nicks (by dsimp only; decide +kernel) rfl rfl (i_val (e_var (i := 4) rfl (Or.inl lk_settle_nicks_names))) (fun _ => (g_nm ⟨nd_settle_nicks, rfl, (by first | exact Or.inl rfl | exact Or.inr rfl), (by first | exact Or.inl rfl | exact Or.inr rfl)⟩)) (fun _ => ts_no) (fun _ => e_int)) (ss_cons (s_for (i_rg1 T.no_range (a_cons (e_var (i := 1) rfl (Or.inr (Or.inl lk_settle_nicks_count))) a_nil) lk_settle_nicks_range) (g_nm ⟨nd_settle_nicks, rfl, Or.inl lk_settle_nicks_at, Or.inl rfl⟩) (ss_one (s_if (t_cmp (fun _ A => o_in A) (e_var (i := 3) rfl (Or.inl lk_settle_nicks_at)) (e_var (i := 6) rfl (Or.inl lk_settle_nicks_leads))) (ss_one (s_asg (e_ix (e_ix (e_var (i := 6) rfl (Or.inl lk_settle_nicks_leads)) (e_var (i := 3) rfl (Or.inl lk_settle_nicks_at))) (e_var (i := 1) rfl (Or.inr (Or.inl lk_settle_nicks_count)))) (g_sub (i := 2) (e_var (i := 3) rfl (Or.inl lk_settle_nicks_at)) rfl (Or.inl lk_settle_nicks_bits)))) ss_nil))) (ss_one (s_ret (e_tup (a_cons e_str (a_cons (e_cty (fun _ A => c_tup A) T.no_tuple rfl (a_cons (e_var (i := 2) rfl (Or.inl lk_settle_nicks_bits)) a_nil) lk_settle_nicks_tuple) a_nil))))))))))))
theorem sc_is_rising : FnScope ["value", "item", "at"] ["value"] (defScope st_is_rising) := ⟨rfl, rfl, rfl, by decide +kernel, rfl, by decide +kernel, by decide +kernel⟩
theorem nd_is_rising : (["value", "item", "at"] : List Str).Nodup := sc_is_rising.nd
theorem kd_is_rising : (defScope st_is_rising).kind = .function := rfl
theorem lk_is_rising_at : (defScope st_is_rising).names.lookup ("at" : Str) = some .local := by decide +kernel
theorem lk_is_rising_is_whole : (defScope st_is_rising).names.lookup ("is_whole" : Str) = some .globalImplicit := by decide +kernel
theorem lk_is_rising_isinstance : (defScope st_is_rising).names.lookup ("isinstance" : Str) = some .globalImplicit := by decide +kernel
theorem lk_is_rising_item : (defScope st_is_rising).names.lookup ("item" : Str) = some .local := by decide +kernel
theorem lk_is_rising_len : (defScope st_is_rising).names.lookup ("len" : Str) = some .globalImplicit := by decide +kernel
theorem lk_is_rising_range : (defScope st_is_rising).names.lookup ("range" : Str) = some .globalImplicit := by decide +kernel
theorem lk_is_rising_tuple : (defScope st_is_rising).names.lookup ("tuple" : Str) = some .globalImplicit := by decide +kernel
theorem lk_is_rising_value : (defScope st_is_rising).names.lookup ("value" : Str) = some .local := by decide +kernel
theorem cal_is_rising (T : Txt K mg) : Cal0 P w K mg base 2 "is_rising" 1 m_is_rising := by
  refine Cal0.of (k := 1) (m := 2) (f := b_is_rising) T.fn_is_rising sc_is_rising rfl rfl fun H0 => ?_
  have h_is_whole : Cal ⟨P, w, K, mg, base, ["value", "item", "at"], defScope st_is_rising, fun _ => true, 1, H0, []⟩ "is_whole" 1 m_is_whole := (cal_is_whole T).cal (by decide)
  exact (ss_cons (s_if (t_not (t_isi .tuple rfl T.no_isinstance T.no_tuple (e_var (i := 0) rfl (Or.inl lk_is_rising_value)) lk_is_rising_isinstance lk_is_rising_tuple)) (ss_one (s_ret e_bl)) ss_nil) (ss_cons (s_for (i_val (e_var (i := 0) rfl (Or.inl lk_is_rising_value))) (g_nm ⟨nd_is_rising, rfl, Or.inl lk_is_rising_item, Or.inl rfl⟩) (ss_one (s_if (t_not (t_tru (e_call h_is_whole (a_cons (e_var (i := 1) rfl (Or.inl lk_is_rising_item)) a_nil) lk_is_rising_is_whole))) (ss_one (s_ret e_bl)) ss_nil))) (ss_cons (s_for (i_rg2 T.no_range (a_cons e_int (a_cons (e_cb (fun _ A => c_len1 A) T.no_len rfl (a_cons (e_var (i := 0) rfl (Or.inl lk_is_rising_value)) a_nil) lk_is_rising_len) a_nil)) lk_is_rising_range) (g_nm ⟨nd_is_rising, rfl, Or.inl lk_is_rising_at, Or.inl rfl⟩) (ss_one (s_if (t_cmp (fun _ A => o_ge A) (e_ix (e_var (i := 0) rfl (Or.inl lk_is_rising_value)) (e_bin (fun _ A => o_sub A) (e_var (i := 2) rfl (Or.inl lk_is_rising_at)) e_int)) (e_ix (e_var (i := 0) rfl (Or.inl lk_is_rising_value)) (e_var (i := 2) rfl (Or.inl lk_is_rising_at)))) (ss_one (s_ret e_bl)) ss_nil))) (ss_one (s_ret e_bl)))))
theorem sc_is_clash : FnScope ["subject", "paper", "name", "names", "rows", "index"] ["subject", "paper"] (defScope st_is_clash) := ⟨rfl, rfl, rfl, by decide +kernel, rfl, by decide +kernel, by decide +kernel⟩
theorem nd_is_clash : (["subject", "paper", "name", "names", "rows", "index"] : List Str).Nodup := sc_is_clash.nd
theorem kd_is_clash : (defScope st_is_clash).kind = .function := rfl
theorem lk_is_clash_is_rising : (defScope st_is_clash).names.lookup ("is_rising" : Str) = some .globalImplicit := by decide +kernel
theorem lk_is_clash_len : (defScope st_is_clash).names.lookup ("len" : Str) = some .globalImplicit := by decide +kernel
theorem lk_is_clash_name : (defScope st_is_clash).names.lookup ("name" : Str) = some .cell := by decide +kernel
theorem lk_is_clash_names : (defScope st_is_clash).names.lookup ("names" : Str) = some .local := by decide +kernel
theorem lk_is_clash_paper : (defScope st_is_clash).names.lookup ("paper" : Str) = some .local := by decide +kernel
theorem lk_is_clash_rows : (defScope st_is_clash).names.lookup ("rows" : Str) = some .cell := by decide +kernel
theorem lk_is_clash_subject : (defScope st_is_clash).names.lookup ("subject" : Str) = some .local := by decide +kernel
theorem lk_is_clash_sum : (defScope st_is_clash).names.lookup ("sum" : Str) = some .globalImplicit := by decide +kernel
theorem cal_is_clash (T : Txt K mg) : Cal0 P w K mg base 3 "is_clash" 2 m_is_clash := by
  refine Cal0.of (k := 2) (m := 4) (f := b_is_clash) T.fn_is_clash sc_is_clash rfl rfl fun H0 => ?_
  have h_is_rising : Cal ⟨P, w, K, mg, base, ["subject", "paper", "name", "names", "rows", "index"], defScope st_is_clash, fun _ => true, 2, H0, []⟩ "is_rising" 1 m_is_rising := (cal_is_rising T).cal (by decide)
  exact (ss_cons (s_asg (e_var (i := 0) rfl (Or.inl lk_is_clash_subject)) (g_tp (gs_cons (g_nm ⟨nd_is_clash, rfl, Or.inl lk_is_clash_names, Or.inl rfl⟩) (gs_cons (g_nm ⟨nd_is_clash, rfl, Or.inr lk_is_clash_rows, Or.inl rfl⟩) gs_nil)))) (ss_cons (s_if (t_w (w_or (t_not (t_tru (e_call h_is_rising (a_cons (e_var (i := 1) rfl (Or.inl lk_is_clash_paper)) a_nil) lk_is_clash_is_rising))) (w_or1 (t_cmp (fun _ A => o_eq A) (e_cb (fun _ A => c_len1 A) T.no_len rfl (a_cons (e_var (i := 1) rfl (Or.inl lk_is_clash_paper)) a_nil) lk_is_clash_len) e_int)))) (ss_one (s_ret e_bl)) ss_nil) (ss_cons (s_if (t_w (w_or (t_cmp (fun _ A => o_lt A) (e_ix (e_var (i := 1) rfl (Or.inl lk_is_clash_paper)) e_int) e_int) (w_or1 (t_cmp (fun _ A => o_ge A) (e_ix (e_var (i := 1) rfl (Or.inl lk_is_clash_paper)) (e_un (fun _ A => o_neg A) e_int)) (e_cb (fun _ A => c_len1 A) T.no_len rfl (a_cons (e_var (i := 4) rfl (Or.inr (Or.inl lk_is_clash_rows))) a_nil) lk_is_clash_len))))) (ss_one (s_ret e_bl)) ss_nil) (ss_cons (s_for (i_val (e_var (i := 3) rfl (Or.inl lk_is_clash_names))) (g_nm ⟨nd_is_clash, rfl, Or.inr lk_is_clash_name, Or.inl rfl⟩) (ss_one (s_if (t_cmp (fun _ A => o_ne A) (e_bin (fun _ A => o_mod A) (e_cb (fun _ A => c_sum A) T.no_sum rfl (a_cons (e_lc (own := [("index", 5)]) nd_is_clash (by dsimp only; decide +kernel) rfl rfl (i_val (e_var (i := 1) rfl (Or.inl lk_is_clash_paper))) (fun _ => (g_nm ⟨nd_is_clash, rfl, (by first | exact Or.inl rfl | exact Or.inr rfl), (by first | exact Or.inl rfl | exact Or.inr rfl)⟩)) (fun _ => ts_no) (fun _ => (e_cty (fun _ A => c_int A) T.no_int rfl (a_cons (e_cmp (fun _ A => o_in A) (e_var (i := 2) rfl ) (e_ix (e_ix (e_var (i := 4) rfl ) (e_var (i := 5) rfl )) e_int)) a_nil) ))) a_nil) lk_is_clash_sum) e_int) e_int) (ss_one (s_ret e_bl)) ss_nil))) (ss_one (s_ret (e_cmp (fun _ A => o_eq A) (e_bin (fun _ A => o_mod A) (e_cb (fun _ A => c_sum A) T.no_sum rfl (a_cons (e_lc (own := [("index", 5)]) nd_is_clash (by dsimp only; decide +kernel) rfl rfl (i_val (e_var (i := 1) rfl (Or.inl lk_is_clash_paper))) (fun _ => (g_nm ⟨nd_is_clash, rfl, (by first | exact Or.inl rfl | exact Or.inr rfl), (by first | exact Or.inl rfl | exact Or.inr rfl)⟩)) (fun _ => ts_no) (fun _ => (e_ix (e_ix (e_var (i := 4) rfl ) (e_var (i := 5) rfl )) e_int))) a_nil) lk_is_clash_sum) e_int) e_int)))))))
theorem sc_is_answer : FnScope ["value"] ["value"] (defScope st_is_answer) := ⟨rfl, rfl, rfl, by decide +kernel, rfl, by decide +kernel, by decide +kernel⟩
theorem nd_is_answer : (["value"] : List Str).Nodup := sc_is_answer.nd
theorem kd_is_answer : (defScope st_is_answer).kind = .function := rfl
theorem lk_is_answer_is_tuple_of : (defScope st_is_answer).names.lookup ("is_tuple_of" : Str) = some .globalImplicit := by decide +kernel
theorem lk_is_answer_isinstance : (defScope st_is_answer).names.lookup ("isinstance" : Str) = some .globalImplicit := by decide +kernel
theorem lk_is_answer_str : (defScope st_is_answer).names.lookup ("str" : Str) = some .globalImplicit := by decide +kernel
theorem lk_is_answer_value : (defScope st_is_answer).names.lookup ("value" : Str) = some .local := by decide +kernel
theorem cal_is_answer (T : Txt K mg) : Cal0 P w K mg base 2 "is_answer" 1 m_is_answer := by
  refine Cal0.of (k := 1) (m := 0) (f := b_is_answer) T.fn_is_answer sc_is_answer rfl rfl fun H0 => ?_
  have h_is_tuple_of : Cal ⟨P, w, K, mg, base, ["value"], defScope st_is_answer, fun _ => true, 1, H0, []⟩ "is_tuple_of" 3 m_is_tuple_of := (cal_is_tuple_of T).cal (by decide)
  exact (ss_cons (s_if (t_w (w_or (t_not (t_tru (e_call h_is_tuple_of (a_cons (e_var (i := 0) rfl (Or.inl lk_is_answer_value)) (a_cons e_int (a_cons e_int a_nil))) lk_is_answer_is_tuple_of))) (w_or1 (t_not (t_isi .str rfl T.no_isinstance T.no_str (e_ix (e_var (i := 0) rfl (Or.inl lk_is_answer_value)) e_int) lk_is_answer_isinstance lk_is_answer_str))))) (ss_one (s_ret e_bl)) ss_nil) (ss_one (s_ret (e_or (e_cmp (fun _ A => o_eq A) (e_ix (e_var (i := 0) rfl (Or.inl lk_is_answer_value)) e_int) e_str) (e_one (e_cmp (fun _ A => o_eq A) (e_ix (e_var (i := 0) rfl (Or.inl lk_is_answer_value)) e_int) e_str))))))
theorem sc_upholds_nicks : FnScope ["subject", "answer"] ["subject", "answer"] (defScope st_upholds_nicks) := ⟨rfl, rfl, rfl, by decide +kernel, rfl, by decide +kernel, by decide +kernel⟩
theorem nd_upholds_nicks : (["subject", "answer"] : List Str).Nodup := sc_upholds_nicks.nd
theorem kd_upholds_nicks : (defScope st_upholds_nicks).kind = .function := rfl
theorem lk_upholds_nicks_answer : (defScope st_upholds_nicks).names.lookup ("answer" : Str) = some .local := by decide +kernel
theorem lk_upholds_nicks_check_nicks : (defScope st_upholds_nicks).names.lookup ("check_nicks" : Str) = some .globalImplicit := by decide +kernel
theorem lk_upholds_nicks_is_answer : (defScope st_upholds_nicks).names.lookup ("is_answer" : Str) = some .globalImplicit := by decide +kernel
theorem lk_upholds_nicks_is_clash : (defScope st_upholds_nicks).names.lookup ("is_clash" : Str) = some .globalImplicit := by decide +kernel
theorem lk_upholds_nicks_keeps : (defScope st_upholds_nicks).names.lookup ("keeps" : Str) = some .globalImplicit := by decide +kernel
theorem lk_upholds_nicks_subject : (defScope st_upholds_nicks).names.lookup ("subject" : Str) = some .local := by decide +kernel
theorem cal_upholds_nicks (T : Txt K mg) : Cal0 P w K mg base 5 "upholds_nicks" 2 m_upholds_nicks := by
  refine Cal0.of (k := 4) (m := 0) (f := b_upholds_nicks) T.fn_upholds_nicks sc_upholds_nicks rfl rfl fun H0 => ?_
  have h_check_nicks : Cal ⟨P, w, K, mg, base, ["subject", "answer"], defScope st_upholds_nicks, fun _ => true, 4, H0, []⟩ "check_nicks" 1 m_check_nicks := (cal_check_nicks T).cal (by decide)
  have h_keeps : Cal ⟨P, w, K, mg, base, ["subject", "answer"], defScope st_upholds_nicks, fun _ => true, 4, H0, []⟩ "keeps" 2 m_keeps := (cal_keeps T).cal (by decide)
  have h_is_clash : Cal ⟨P, w, K, mg, base, ["subject", "answer"], defScope st_upholds_nicks, fun _ => true, 4, H0, []⟩ "is_clash" 2 m_is_clash := (cal_is_clash T).cal (by decide)
  have h_is_answer : Cal ⟨P, w, K, mg, base, ["subject", "answer"], defScope st_upholds_nicks, fun _ => true, 4, H0, []⟩ "is_answer" 1 m_is_answer := (cal_is_answer T).cal (by decide)
  exact (ss_cons (s_ex (e_call h_check_nicks (a_cons (e_var (i := 0) rfl (Or.inl lk_upholds_nicks_subject)) a_nil) lk_upholds_nicks_check_nicks)) (ss_cons (s_if (t_not (t_tru (e_call h_is_answer (a_cons (e_var (i := 1) rfl (Or.inl lk_upholds_nicks_answer)) a_nil) lk_upholds_nicks_is_answer))) (ss_one (s_ret e_bl)) ss_nil) (ss_cons (s_if (t_cmp (fun _ A => o_eq A) (e_ix (e_var (i := 1) rfl (Or.inl lk_upholds_nicks_answer)) e_int) e_str) (ss_one (s_ret (e_call h_keeps (a_cons (e_var (i := 0) rfl (Or.inl lk_upholds_nicks_subject)) (a_cons (e_ix (e_var (i := 1) rfl (Or.inl lk_upholds_nicks_answer)) e_int) a_nil)) lk_upholds_nicks_keeps))) ss_nil) (ss_one (s_ret (e_call h_is_clash (a_cons (e_var (i := 0) rfl (Or.inl lk_upholds_nicks_subject)) (a_cons (e_ix (e_var (i := 1) rfl (Or.inl lk_upholds_nicks_answer)) e_int) a_nil)) lk_upholds_nicks_is_clash))))))
theorem sc_check_among : FnScope ["names", "name"] ["names", "name"] (defScope st_check_among) := ⟨rfl, rfl, rfl, by decide +kernel, rfl, by decide +kernel, by decide +kernel⟩
theorem nd_check_among : (["names", "name"] : List Str).Nodup := sc_check_among.nd
theorem kd_check_among : (defScope st_check_among).kind = .function := rfl
theorem lk_check_among_BadNick : (defScope st_check_among).names.lookup ("BadNick" : Str) = some .globalImplicit := by decide +kernel
theorem lk_check_among_is_name : (defScope st_check_among).names.lookup ("is_name" : Str) = some .globalImplicit := by decide +kernel
theorem lk_check_among_name : (defScope st_check_among).names.lookup ("name" : Str) = some .local := by decide +kernel
theorem lk_check_among_names : (defScope st_check_among).names.lookup ("names" : Str) = some .local := by decide +kernel
theorem cal_check_among (T : Txt K mg) : Cal0 P w K mg base 2 "check_among" 2 m_check_among := by
  refine Cal0.of (k := 1) (m := 0) (f := b_check_among) T.fn_check_among sc_check_among rfl rfl fun H0 => ?_
  have h_is_name : Cal ⟨P, w, K, mg, base, ["names", "name"], defScope st_check_among, fun _ => true, 1, H0, []⟩ "is_name" 1 m_is_name := (cal_is_name T).cal (by decide)
  exact (ss_one (s_if (t_w (w_or (t_not (t_tru (e_call h_is_name (a_cons (e_var (i := 1) rfl (Or.inl lk_check_among_name)) a_nil) lk_check_among_is_name))) (w_or1 (t_cmp (fun _ A => o_notin A) (e_var (i := 1) rfl (Or.inl lk_check_among_name)) (e_var (i := 0) rfl (Or.inl lk_check_among_names)))))) (ss_one (s_raise ⟨T.exc_BadNick⟩ lk_check_among_BadNick)) ss_nil))
theorem sc_in_free_names : FnScope ["leads", "at", "count", "line", "index"] ["leads", "at", "count"] (defScope st_in_free_names) := ⟨rfl, rfl, rfl, by decide +kernel, rfl, by decide +kernel, by decide +kernel⟩
theorem nd_in_free_names : (["leads", "at", "count", "line", "index"] : List Str).Nodup := sc_in_free_names.nd
theorem kd_in_free_names : (defScope st_in_free_names).kind = .function := rfl
theorem lk_in_free_names_at : (defScope st_in_free_names).names.lookup ("at" : Str) = some .cell := by decide +kernel
theorem lk_in_free_names_count : (defScope st_in_free_names).names.lookup ("count" : Str) = some .local := by decide +kernel
theorem lk_in_free_names_leads : (defScope st_in_free_names).names.lookup ("leads" : Str) = some .local := by decide +kernel
theorem lk_in_free_names_line : (defScope st_in_free_names).names.lookup ("line" : Str) = some .local := by decide +kernel
theorem lk_in_free_names_range : (defScope st_in_free_names).names.lookup ("range" : Str) = some .globalImplicit := by decide +kernel
theorem cal_in_free_names (T : Txt K mg) : Cal0 P w K mg base 1 "in_free_names" 3 m_in_free_names := by
  refine Cal0.of (k := 0) (m := 2) (f := b_in_free_names) T.fn_in_free_names sc_in_free_names rfl rfl fun H0 => ?_
  exact (ss_cons (s_if (t_cmp (fun _ A => o_notin A) (e_var (i := 1) rfl (Or.inr (Or.inl lk_in_free_names_at))) (e_var (i := 0) rfl (Or.inl lk_in_free_names_leads))) (ss_one (s_ret (e_bin (fun _ A => o_add A) (e_lc (own := [("index", 4)]) nd_in_free_names (by dsimp only; decide +kernel) rfl rfl (i_rg1 T.no_range (a_cons (e_var (i := 2) rfl (Or.inl lk_in_free_names_count)) a_nil) lk_in_free_names_range) (fun _ => (g_nm ⟨nd_in_free_names, rfl, (by first | exact Or.inl rfl | exact Or.inr rfl), (by first | exact Or.inl rfl | exact Or.inr rfl)⟩)) (fun _ => ts_no) (fun _ => (e_cty (fun _ A => c_int A) T.no_int rfl (a_cons (e_cmp (fun _ A => o_eq A) (e_var (i := 4) rfl ) (e_var (i := 1) rfl )) a_nil) ))) (e_lst (a_cons e_int a_nil))))) ss_nil) (ss_cons (s_set ⟨nd_in_free_names, rfl, Or.inl lk_in_free_names_line, Or.inl rfl⟩ (e_sl (e_ix (e_var (i := 0) rfl (Or.inl lk_in_free_names_leads)) (e_var (i := 1) rfl (Or.inr (Or.inl lk_in_free_names_at)))) p_no (p_so (e_bin (fun _ A => o_add A) (e_var (i := 2) rfl (Or.inl lk_in_free_names_count)) e_int)))) (ss_cons (s_asg e_int (g_sub (i := 3) (e_var (i := 1) rfl (Or.inr (Or.inl lk_in_free_names_at))) rfl (Or.inl lk_in_free_names_line))) (ss_one (s_ret (e_var (i := 3) rfl (Or.inl lk_in_free_names_line)))))))
theorem sc_told_apart : FnScope ["subject", "a", "b", "count", "both", "names", "rows", "leads", "clash"] ["subject", "a", "b"] (defScope st_told_apart) := ⟨rfl, rfl, rfl, by decide +kernel, rfl, by decide +kernel, by decide +kernel⟩
theorem nd_told_apart : (["subject", "a", "b", "count", "both", "names", "rows", "leads", "clash"] : List Str).Nodup := sc_told_apart.nd
theorem kd_told_apart : (defScope st_told_apart).kind = .function := rfl
theorem lk_told_apart_BadNick : (defScope st_told_apart).names.lookup ("BadNick" : Str) = some .globalImplicit := by decide +kernel
theorem lk_told_apart_a : (defScope st_told_apart).names.lookup ("a" : Str) = some .local := by decide +kernel
theorem lk_told_apart_b : (defScope st_told_apart).names.lookup ("b" : Str) = some .local := by decide +kernel
theorem lk_told_apart_both : (defScope st_told_apart).names.lookup ("both" : Str) = some .local := by decide +kernel
theorem lk_told_apart_check_among : (defScope st_told_apart).names.lookup ("check_among" : Str) = some .globalImplicit := by decide +kernel
theorem lk_told_apart_check_nicks : (defScope st_told_apart).names.lookup ("check_nicks" : Str) = some .globalImplicit := by decide +kernel
theorem lk_told_apart_clash : (defScope st_told_apart).names.lookup ("clash" : Str) = some .local := by decide +kernel
theorem lk_told_apart_count : (defScope st_told_apart).names.lookup ("count" : Str) = some .local := by decide +kernel
theorem lk_told_apart_leads : (defScope st_told_apart).names.lookup ("leads" : Str) = some .local := by decide +kernel
theorem lk_told_apart_len : (defScope st_told_apart).names.lookup ("len" : Str) = some .globalImplicit := by decide +kernel
theorem lk_told_apart_names : (defScope st_told_apart).names.lookup ("names" : Str) = some .local := by decide +kernel
theorem lk_told_apart_rows : (defScope st_told_apart).names.lookup ("rows" : Str) = some .local := by decide +kernel
theorem lk_told_apart_solved : (defScope st_told_apart).names.lookup ("solved" : Str) = some .globalImplicit := by decide +kernel
theorem lk_told_apart_subject : (defScope st_told_apart).names.lookup ("subject" : Str) = some .local := by decide +kernel
theorem cal_told_apart (T : Txt K mg) : Cal0 P w K mg base 4 "told_apart" 3 m_told_apart := by
  refine Cal0.of (k := 3) (m := 6) (f := b_told_apart) T.fn_told_apart sc_told_apart rfl rfl fun H0 => ?_
  have h_check_nicks : Cal ⟨P, w, K, mg, base, ["subject", "a", "b", "count", "both", "names", "rows", "leads", "clash"], defScope st_told_apart, fun _ => true, 3, H0, []⟩ "check_nicks" 1 m_check_nicks := (cal_check_nicks T).cal (by decide)
  have h_added : Cal ⟨P, w, K, mg, base, ["subject", "a", "b", "count", "both", "names", "rows", "leads", "clash"], defScope st_told_apart, fun _ => true, 3, H0, []⟩ "added" 2 m_added := (cal_added T).cal (by decide)
  have h_solved : Cal ⟨P, w, K, mg, base, ["subject", "a", "b", "count", "both", "names", "rows", "leads", "clash"], defScope st_told_apart, fun _ => true, 3, H0, []⟩ "solved" 1 m_solved := (cal_solved T).cal (by decide)
  have h_check_among : Cal ⟨P, w, K, mg, base, ["subject", "a", "b", "count", "both", "names", "rows", "leads", "clash"], defScope st_told_apart, fun _ => true, 3, H0, []⟩ "check_among" 2 m_check_among := (cal_check_among T).cal (by decide)
  have h_in_free_names : Cal ⟨P, w, K, mg, base, ["subject", "a", "b", "count", "both", "names", "rows", "leads", "clash"], defScope st_told_apart, fun _ => true, 3, H0, []⟩ "in_free_names" 3 m_in_free_names := (cal_in_free_names T).cal (by decide)
  exact (ss_cons (s_ex (e_call h_check_nicks (a_cons (e_var (i := 0) rfl (Or.inl lk_told_apart_subject)) a_nil) lk_told_apart_check_nicks)) (ss_cons (s_asg (e_var (i := 0) rfl (Or.inl lk_told_apart_subject)) (g_tp (gs_cons (g_nm ⟨nd_told_apart, rfl, Or.inl lk_told_apart_names, Or.inl rfl⟩) (gs_cons (g_nm ⟨nd_told_apart, rfl, Or.inl lk_told_apart_rows, Or.inl rfl⟩) gs_nil)))) (ss_cons (s_ex (e_call h_check_among (a_cons (e_var (i := 5) rfl (Or.inl lk_told_apart_names)) (a_cons (e_var (i := 1) rfl (Or.inl lk_told_apart_a)) a_nil)) lk_told_apart_check_among)) (ss_cons (s_ex (e_call h_check_among (a_cons (e_var (i := 5) rfl (Or.inl lk_told_apart_names)) (a_cons (e_var (i := 2) rfl (Or.inl lk_told_apart_b)) a_nil)) lk_told_apart_check_among)) (ss_cons (s_set ⟨nd_told_apart, rfl, Or.inl lk_told_apart_count, Or.inl rfl⟩ (e_cb (fun _ A => c_len1 A) T.no_len rfl (a_cons (e_var (i := 5) rfl (Or.inl lk_told_apart_names)) a_nil) lk_told_apart_len)) (ss_cons (s_asg (e_call h_solved (a_cons (e_var (i := 0) rfl (Or.inl lk_told_apart_subject)) a_nil) lk_told_apart_solved) (g_tp (gs_cons (g_nm ⟨nd_told_apart, rfl, Or.inl lk_told_apart_leads, Or.inl rfl⟩) (gs_cons (g_nm ⟨nd_told_apart, rfl, Or.inl lk_told_apart_clash, Or.inl rfl⟩) gs_nil)))) (ss_cons (s_if (t_cmp (fun _ A => o_isnot A) (e_var (i := 8) rfl (Or.inl lk_told_apart_clash)) e_non) (ss_one (s_raise ⟨T.exc_BadNick⟩ lk_told_apart_BadNick)) ss_nil) (ss_cons s_stk (ss_cons (s_if (t_cmp (fun _ A => o_in A) e_int (e_sl (e_var (i := 4) rfl (Or.inl lk_told_apart_both)) p_no (p_so (e_var (i := 3) rfl (Or.inl lk_told_apart_count))))) (ss_one (s_ret e_str)) ss_nil) (ss_cons (s_if (t_cmp (fun _ A => o_eq A) (e_ix (e_var (i := 4) rfl (Or.inl lk_told_apart_both)) (e_var (i := 3) rfl (Or.inl lk_told_apart_count))) e_int) (ss_one (s_ret e_str)) ss_nil) (ss_one (s_ret e_str))))))))))))
theorem sc_freedom : FnScope ["subject", "leads", "clash"] ["subject"] (defScope st_freedom) := ⟨rfl, rfl, rfl, by decide +kernel, rfl, by decide +kernel, by decide +kernel⟩
theorem nd_freedom : (["subject", "leads", "clash"] : List Str).Nodup := sc_freedom.nd
theorem kd_freedom : (defScope st_freedom).kind = .function := rfl
theorem lk_freedom_check_nicks : (defScope st_freedom).names.lookup ("check_nicks" : Str) = some .globalImplicit := by decide +kernel
theorem lk_freedom_clash : (defScope st_freedom).names.lookup ("clash" : Str) = some .local := by decide +kernel
theorem lk_freedom_leads : (defScope st_freedom).names.lookup ("leads" : Str) = some .local := by decide +kernel
theorem lk_freedom_len : (defScope st_freedom).names.lookup ("len" : Str) = some .globalImplicit := by decide +kernel
theorem lk_freedom_solved : (defScope st_freedom).names.lookup ("solved" : Str) = some .globalImplicit := by decide +kernel
theorem lk_freedom_subject : (defScope st_freedom).names.lookup ("subject" : Str) = some .local := by decide +kernel
theorem cal_freedom (T : Txt K mg) : Cal0 P w K mg base 4 "freedom" 1 m_freedom := by
  refine Cal0.of (k := 3) (m := 2) (f := b_freedom) T.fn_freedom sc_freedom rfl rfl fun H0 => ?_
  have h_check_nicks : Cal ⟨P, w, K, mg, base, ["subject", "leads", "clash"], defScope st_freedom, fun _ => true, 3, H0, []⟩ "check_nicks" 1 m_check_nicks := (cal_check_nicks T).cal (by decide)
  have h_solved : Cal ⟨P, w, K, mg, base, ["subject", "leads", "clash"], defScope st_freedom, fun _ => true, 3, H0, []⟩ "solved" 1 m_solved := (cal_solved T).cal (by decide)
  exact (ss_cons (s_ex (e_call h_check_nicks (a_cons (e_var (i := 0) rfl (Or.inl lk_freedom_subject)) a_nil) lk_freedom_check_nicks)) (ss_cons (s_asg (e_call h_solved (a_cons (e_var (i := 0) rfl (Or.inl lk_freedom_subject)) a_nil) lk_freedom_solved) (g_tp (gs_cons (g_nm ⟨nd_freedom, rfl, Or.inl lk_freedom_leads, Or.inl rfl⟩) (gs_cons (g_nm ⟨nd_freedom, rfl, Or.inl lk_freedom_clash, Or.inl rfl⟩) gs_nil)))) (ss_cons (s_if (t_cmp (fun _ A => o_isnot A) (e_var (i := 2) rfl (Or.inl lk_freedom_clash)) e_non) (ss_one (s_ret e_non)) ss_nil) (ss_one (s_ret (e_bin (fun _ A => o_sub A) (e_cb (fun _ A => c_len1 A) T.no_len rfl (a_cons (e_ix (e_var (i := 0) rfl (Or.inl lk_freedom_subject)) e_int) a_nil) lk_freedom_len) (e_cb (fun _ A => c_len1 A) T.no_len rfl (a_cons (e_var (i := 1) rfl (Or.inl lk_freedom_leads)) a_nil) lk_freedom_len)))))))
theorem sc__law_refuses : FnScope ["way", "subject", "e"] ["way", "subject"] (defScope st__law_refuses) := ⟨rfl, rfl, rfl, by decide +kernel, rfl, by decide +kernel, by decide +kernel⟩
theorem nd__law_refuses : (["way", "subject", "e"] : List Str).Nodup := sc__law_refuses.nd
theorem kd__law_refuses : (defScope st__law_refuses).kind = .function := rfl
theorem lk__law_refuses_BadNick : (defScope st__law_refuses).names.lookup ("BadNick" : Str) = some .globalImplicit := by decide +kernel
theorem lk__law_refuses_ValueError : (defScope st__law_refuses).names.lookup ("ValueError" : Str) = some .globalImplicit := by decide +kernel
theorem lk__law_refuses_check_nicks : (defScope st__law_refuses).names.lookup ("check_nicks" : Str) = some .globalImplicit := by decide +kernel
theorem lk__law_refuses_e : (defScope st__law_refuses).names.lookup ("e" : Str) = some .local := by decide +kernel
theorem lk__law_refuses_freedom : (defScope st__law_refuses).names.lookup ("freedom" : Str) = some .globalImplicit := by decide +kernel
theorem lk__law_refuses_isinstance : (defScope st__law_refuses).names.lookup ("isinstance" : Str) = some .globalImplicit := by decide +kernel
theorem lk__law_refuses_keeps : (defScope st__law_refuses).names.lookup ("keeps" : Str) = some .globalImplicit := by decide +kernel
theorem lk__law_refuses_settle_nicks : (defScope st__law_refuses).names.lookup ("settle_nicks" : Str) = some .globalImplicit := by decide +kernel
theorem lk__law_refuses_subject : (defScope st__law_refuses).names.lookup ("subject" : Str) = some .local := by decide +kernel
theorem lk__law_refuses_told_apart : (defScope st__law_refuses).names.lookup ("told_apart" : Str) = some .globalImplicit := by decide +kernel
theorem lk__law_refuses_upholds_nicks : (defScope st__law_refuses).names.lookup ("upholds_nicks" : Str) = some .globalImplicit := by decide +kernel
theorem lk__law_refuses_way : (defScope st__law_refuses).names.lookup ("way" : Str) = some .local := by decide +kernel
theorem cal__law_refuses (T : Txt K mg) : Cal0 P w K mg base 6 "_law_refuses" 2 m__law_refuses := by
  refine Cal0.of (k := 5) (m := 1) (f := b__law_refuses) T.fn__law_refuses sc__law_refuses rfl rfl fun H0 => ?_
  have h_check_nicks : Cal ⟨P, w, K, mg, base, ["way", "subject", "e"], defScope st__law_refuses, fun _ => true, 5, H0, []⟩ "check_nicks" 1 m_check_nicks := (cal_check_nicks T).cal (by decide)
  have h_keeps : Cal ⟨P, w, K, mg, base, ["way", "subject", "e"], defScope st__law_refuses, fun _ => true, 5, H0, []⟩ "keeps" 2 m_keeps := (cal_keeps T).cal (by decide)
  have h_settle_nicks : Cal ⟨P, w, K, mg, base, ["way", "subject", "e"], defScope st__law_refuses, fun _ => true, 5, H0, []⟩ "settle_nicks" 1 m_settle_nicks := (cal_settle_nicks T).cal (by decide)
  have h_upholds_nicks : Cal ⟨P, w, K, mg, base, ["way", "subject", "e"], defScope st__law_refuses, fun _ => true, 5, H0, []⟩ "upholds_nicks" 2 m_upholds_nicks := (cal_upholds_nicks T).cal (by decide)
  have h_told_apart : Cal ⟨P, w, K, mg, base, ["way", "subject", "e"], defScope st__law_refuses, fun _ => true, 5, H0, []⟩ "told_apart" 3 m_told_apart := (cal_told_apart T).cal (by decide)
  have h_freedom : Cal ⟨P, w, K, mg, base, ["way", "subject", "e"], defScope st__law_refuses, fun _ => true, 5, H0, []⟩ "freedom" 1 m_freedom := (cal_freedom T).cal (by decide)
  exact (ss_cons (s_try (i := 2) ⟨T.cat_BadNick⟩ (ss_one (s_if (t_cmp (fun _ A => o_eq A) (e_var (i := 0) rfl (Or.inl lk__law_refuses_way)) e_int) (ss_one (s_ex (e_call h_check_nicks (a_cons (e_var (i := 1) rfl (Or.inl lk__law_refuses_subject)) a_nil) lk__law_refuses_check_nicks))) (ss_one (s_if (t_cmp (fun _ A => o_eq A) (e_var (i := 0) rfl (Or.inl lk__law_refuses_way)) e_int) (ss_one (s_ex (e_call h_keeps (a_cons (e_var (i := 1) rfl (Or.inl lk__law_refuses_subject)) (a_cons (e_tup a_nil) a_nil)) lk__law_refuses_keeps))) (ss_one (s_if (t_cmp (fun _ A => o_eq A) (e_var (i := 0) rfl (Or.inl lk__law_refuses_way)) e_int) (ss_one (s_ex (e_call h_settle_nicks (a_cons (e_var (i := 1) rfl (Or.inl lk__law_refuses_subject)) a_nil) lk__law_refuses_settle_nicks))) (ss_one (s_if (t_cmp (fun _ A => o_eq A) (e_var (i := 0) rfl (Or.inl lk__law_refuses_way)) e_int) (ss_one (s_ex (e_call h_upholds_nicks (a_cons (e_var (i := 1) rfl (Or.inl lk__law_refuses_subject)) (a_cons (e_tup (a_cons e_str (a_cons (e_tup a_nil) a_nil))) a_nil)) lk__law_refuses_upholds_nicks))) (ss_one (s_if (t_cmp (fun _ A => o_eq A) (e_var (i := 0) rfl (Or.inl lk__law_refuses_way)) e_int) (ss_one (s_ex (e_call h_told_apart (a_cons (e_var (i := 1) rfl (Or.inl lk__law_refuses_subject)) (a_cons e_str (a_cons e_str a_nil))) lk__law_refuses_told_apart))) (ss_one (s_ex (e_call h_freedom (a_cons (e_var (i := 1) rfl (Or.inl lk__law_refuses_subject)) a_nil) lk__law_refuses_freedom))))))))))))) (h_isi ⟨T.ise_ValueError⟩ rfl (by decide) T.no_isinstance lk__law_refuses_isinstance lk__law_refuses_ValueError (Or.inl lk__law_refuses_e)) rfl nd__law_refuses lk__law_refuses_e lk__law_refuses_BadNick) (ss_one (s_ret e_bl)))
theorem sc_law : FnScope ["script", "subject", "jar", "k", "found", "bad", "wrong", "at", "names", "rows", "bits", "few", "name"] ["script"] (defScope st_law) := ⟨rfl, rfl, rfl, by decide +kernel, rfl, by decide +kernel, by decide +kernel⟩
theorem nd_law : (["script", "subject", "jar", "k", "found", "bad", "wrong", "at", "names", "rows", "bits", "few", "name"] : List Str).Nodup := sc_law.nd
theorem kd_law : (defScope st_law).kind = .function := rfl
theorem lk_law__law_draw : (defScope st_law).names.lookup ("_law_draw" : Str) = some .globalImplicit := by decide +kernel
theorem lk_law__law_is : (defScope st_law).names.lookup ("_law_is" : Str) = some .globalImplicit := by decide +kernel
theorem lk_law__law_jar : (defScope st_law).names.lookup ("_law_jar" : Str) = some .globalImplicit := by decide +kernel
theorem lk_law__law_keeps : (defScope st_law).names.lookup ("_law_keeps" : Str) = some .globalImplicit := by decide +kernel
theorem lk_law__law_nicks : (defScope st_law).names.lookup ("_law_nicks" : Str) = some .globalImplicit := by decide +kernel
theorem lk_law__law_pairs : (defScope st_law).names.lookup ("_law_pairs" : Str) = some .globalImplicit := by decide +kernel
theorem lk_law__law_pairs_refused : (defScope st_law).names.lookup ("_law_pairs_refused" : Str) = some .globalImplicit := by decide +kernel
theorem lk_law__law_refuses : (defScope st_law).names.lookup ("_law_refuses" : Str) = some .globalImplicit := by decide +kernel
theorem lk_law__law_same : (defScope st_law).names.lookup ("_law_same" : Str) = some .globalImplicit := by decide +kernel
theorem lk_law__law_wrong : (defScope st_law).names.lookup ("_law_wrong" : Str) = some .globalImplicit := by decide +kernel
theorem lk_law_at : (defScope st_law).names.lookup ("at" : Str) = some .local := by decide +kernel
theorem lk_law_bad : (defScope st_law).names.lookup ("bad" : Str) = some .local := by decide +kernel
theorem lk_law_bits : (defScope st_law).names.lookup ("bits" : Str) = some .local := by decide +kernel
theorem lk_law_check_nicks : (defScope st_law).names.lookup ("check_nicks" : Str) = some .globalImplicit := by decide +kernel
theorem lk_law_few : (defScope st_law).names.lookup ("few" : Str) = some .local := by decide +kernel
theorem lk_law_found : (defScope st_law).names.lookup ("found" : Str) = some .local := by decide +kernel
theorem lk_law_int : (defScope st_law).names.lookup ("int" : Str) = some .globalImplicit := by decide +kernel
theorem lk_law_jar : (defScope st_law).names.lookup ("jar" : Str) = some .cell := by decide +kernel
theorem lk_law_k : (defScope st_law).names.lookup ("k" : Str) = some .local := by decide +kernel
theorem lk_law_keeps : (defScope st_law).names.lookup ("keeps" : Str) = some .globalImplicit := by decide +kernel
theorem lk_law_len : (defScope st_law).names.lookup ("len" : Str) = some .globalImplicit := by decide +kernel
theorem lk_law_list : (defScope st_law).names.lookup ("list" : Str) = some .globalImplicit := by decide +kernel
theorem lk_law_names : (defScope st_law).names.lookup ("names" : Str) = some .local := by decide +kernel
theorem lk_law_nick_rows : (defScope st_law).names.lookup ("nick_rows" : Str) = some .globalImplicit := by decide +kernel
theorem lk_law_range : (defScope st_law).names.lookup ("range" : Str) = some .globalImplicit := by decide +kernel
theorem lk_law_rows : (defScope st_law).names.lookup ("rows" : Str) = some .local := by decide +kernel
theorem lk_law_script : (defScope st_law).names.lookup ("script" : Str) = some .local := by decide +kernel
theorem lk_law_subject : (defScope st_law).names.lookup ("subject" : Str) = some .local := by decide +kernel
theorem lk_law_tuple : (defScope st_law).names.lookup ("tuple" : Str) = some .globalImplicit := by decide +kernel
theorem lk_law_wrong : (defScope st_law).names.lookup ("wrong" : Str) = some .local := by decide +kernel
theorem fnok_law (T : Txt K mg) {f : Addr} {fd : FuncData} (F : L2.Fun K "law" "law" st_law f fd) : FnOk P w K mg base (L2.CX P w) 7 f fd ["script"] (spF K mg 1 m_law) := by
  refine fn_ok (k := 6) (m := 12) (f := b_law) F sc_law rfl rfl fun H0 => ?_
  have h__law_jar : Cal ⟨P, w, K, mg, base, ["script", "subject", "jar", "k", "found", "bad", "wrong", "at", "names", "rows", "bits", "few", "name"], defScope st_law, fun _ => true, 6, H0, []⟩ "_law_jar" 2 m__law_jar := (cal__law_jar T).cal (by decide)
  have h__law_draw : Cal1 ⟨P, w, K, mg, base, ["script", "subject", "jar", "k", "found", "bad", "wrong", "at", "names", "rows", "bits", "few", "name"], defScope st_law, fun _ => true, 6, H0, []⟩ "_law_draw" 2 0 m__law_draw := (cal__law_draw T).cal (by decide)
  have h__law_nicks : Cal ⟨P, w, K, mg, base, ["script", "subject", "jar", "k", "found", "bad", "wrong", "at", "names", "rows", "bits", "few", "name"], defScope st_law, fun _ => true, 6, H0, []⟩ "_law_nicks" 1 m__law_nicks := (cal__law_nicks T).cal (by decide)
  have h__law_pairs : Cal ⟨P, w, K, mg, base, ["script", "subject", "jar", "k", "found", "bad", "wrong", "at", "names", "rows", "bits", "few", "name"], defScope st_law, fun _ => true, 6, H0, []⟩ "_law_pairs" 2 m__law_pairs := (cal__law_pairs T).cal (by decide)
  have h__law_wrong : Cal ⟨P, w, K, mg, base, ["script", "subject", "jar", "k", "found", "bad", "wrong", "at", "names", "rows", "bits", "few", "name"], defScope st_law, fun _ => true, 6, H0, []⟩ "_law_wrong" 2 m__law_wrong := (cal__law_wrong T).cal (by decide)
  have h__law_same : Cal ⟨P, w, K, mg, base, ["script", "subject", "jar", "k", "found", "bad", "wrong", "at", "names", "rows", "bits", "few", "name"], defScope st_law, fun _ => true, 6, H0, []⟩ "_law_same" 2 m__law_same := (cal__law_same T).cal (by decide)
  have h_check_nicks : Cal ⟨P, w, K, mg, base, ["script", "subject", "jar", "k", "found", "bad", "wrong", "at", "names", "rows", "bits", "few", "name"], defScope st_law, fun _ => true, 6, H0, []⟩ "check_nicks" 1 m_check_nicks := (cal_check_nicks T).cal (by decide)
  have h__law_is : Cal ⟨P, w, K, mg, base, ["script", "subject", "jar", "k", "found", "bad", "wrong", "at", "names", "rows", "bits", "few", "name"], defScope st_law, fun _ => true, 6, H0, []⟩ "_law_is" 2 m__law_is := (cal__law_is T).cal (by decide)
  have h_nick_rows : Cal ⟨P, w, K, mg, base, ["script", "subject", "jar", "k", "found", "bad", "wrong", "at", "names", "rows", "bits", "few", "name"], defScope st_law, fun _ => true, 6, H0, []⟩ "nick_rows" 1 m_nick_rows := (cal_nick_rows T).cal (by decide)
  have h__law_pairs_refused : Cal ⟨P, w, K, mg, base, ["script", "subject", "jar", "k", "found", "bad", "wrong", "at", "names", "rows", "bits", "few", "name"], defScope st_law, fun _ => true, 6, H0, []⟩ "_law_pairs_refused" 1 m__law_pairs_refused := (cal__law_pairs_refused T).cal (by decide)
  have h_keeps : Cal ⟨P, w, K, mg, base, ["script", "subject", "jar", "k", "found", "bad", "wrong", "at", "names", "rows", "bits", "few", "name"], defScope st_law, fun _ => true, 6, H0, []⟩ "keeps" 2 m_keeps := (cal_keeps T).cal (by decide)
  have h__law_keeps : Cal ⟨P, w, K, mg, base, ["script", "subject", "jar", "k", "found", "bad", "wrong", "at", "names", "rows", "bits", "few", "name"], defScope st_law, fun _ => true, 6, H0, []⟩ "_law_keeps" 3 m__law_keeps := (cal__law_keeps T).cal (by decide)
  have h__law_refuses : Cal ⟨P, w, K, mg, base, ["script", "subject", "jar", "k", "found", "bad", "wrong", "at", "names", "rows", "bits", "few", "name"], defScope st_law, fun _ => true, 6, H0, []⟩ "_law_refuses" 2 m__law_refuses := (cal__law_refuses T).cal (by decide)
  exact (ss_cons (s_set ⟨nd_law, rfl, Or.inl lk_law_subject, Or.inl rfl⟩ (e_call h__law_nicks (a_cons (e_var (i := 0) rfl (Or.inl lk_law_script)) a_nil) lk_law__law_nicks)) (ss_cons (s_asg (e_var (i := 1) rfl (Or.inl lk_law_subject)) (g_tp (gs_cons (g_nm ⟨nd_law, rfl, Or.inl lk_law_names, Or.inl rfl⟩) (gs_cons (g_nm ⟨nd_law, rfl, Or.inl lk_law_rows, Or.inl rfl⟩) gs_nil)))) (ss_cons (s_if (t_w (w_or (t_cmp (fun _ A => o_isnot A) (e_call h_check_nicks (a_cons (e_var (i := 1) rfl (Or.inl lk_law_subject)) a_nil) lk_law_check_nicks) e_non) (w_or1 (t_cmp (fun _ A => o_isnot A) (e_call h_check_nicks (a_cons (e_tup (a_cons (e_bin (fun _ A => o_add A) (e_sl (e_var (i := 8) rfl (Or.inl lk_law_names)) p_no (p_so e_int)) (e_tup (a_cons e_str a_nil))) (a_cons (e_bin (fun _ A => o_mul A) (e_tup (a_cons (e_tup (a_cons (e_tup a_nil) (a_cons e_int a_nil))) a_nil)) e_int) a_nil))) a_nil) lk_law_check_nicks) e_non)))) (ss_one (s_ret e_bl)) ss_nil) (ss_cons (s_set ⟨nd_law, rfl, Or.inr lk_law_jar, Or.inl rfl⟩ (e_call h__law_jar (a_cons (e_var (i := 0) rfl (Or.inl lk_law_script)) (a_cons e_int a_nil)) lk_law__law_jar)) (ss_cons (s_for (i_rg1 T.no_range (a_cons e_int a_nil) lk_law_range) (g_nm ⟨nd_law, rfl, Or.inl lk_law_k, Or.inl rfl⟩) (ss_cons (s_set ⟨nd_law, rfl, Or.inl lk_law_bits, Or.inl rfl⟩ (e_cty (fun _ A => c_tup A) T.no_tuple rfl (a_cons (e_lc (own := [("name", 12)]) nd_law (by dsimp only; decide +kernel) rfl rfl (i_val (e_var (i := 8) rfl (Or.inl lk_law_names))) (fun _ => (g_nm ⟨nd_law, rfl, (by first | exact Or.inl rfl | exact Or.inr rfl), (by first | exact Or.inl rfl | exact Or.inr rfl)⟩)) (fun _ => ts_no) (fun _ => (e_call1 ⟨h__law_draw.ex⟩ (a_cons (e_var (i := 2) rfl ) (a_cons e_int a_nil)) ))) a_nil) lk_law_tuple)) (ss_cons (s_if (t_not (t_tru (e_call h__law_is (a_cons (e_call h_keeps (a_cons (e_var (i := 1) rfl (Or.inl lk_law_subject)) (a_cons (e_var (i := 10) rfl (Or.inl lk_law_bits)) a_nil)) lk_law_keeps) (a_cons (e_call h__law_keeps (a_cons (e_var (i := 8) rfl (Or.inl lk_law_names)) (a_cons (e_var (i := 9) rfl (Or.inl lk_law_rows)) (a_cons (e_var (i := 10) rfl (Or.inl lk_law_bits)) a_nil))) lk_law__law_keeps) a_nil)) lk_law__law_is))) (ss_one (s_ret e_bl)) ss_nil) (ss_cons (s_set ⟨nd_law, rfl, Or.inl lk_law_few, Or.inl rfl⟩ (e_tup (a_cons (e_var (i := 8) rfl (Or.inl lk_law_names)) (a_cons (e_sl (e_var (i := 9) rfl (Or.inl lk_law_rows)) p_no (p_so (e_call1 h__law_draw (a_cons (e_var (i := 2) rfl (Or.inr (Or.inl lk_law_jar))) (a_cons e_int a_nil)) lk_law__law_draw))) a_nil)))) (ss_cons (s_if (t_not (t_tru (e_call h__law_is (a_cons (e_call h_keeps (a_cons (e_var (i := 11) rfl (Or.inl lk_law_few)) (a_cons (e_var (i := 10) rfl (Or.inl lk_law_bits)) a_nil)) lk_law_keeps) (a_cons (e_call h__law_keeps (a_cons (e_var (i := 8) rfl (Or.inl lk_law_names)) (a_cons (e_ix (e_var (i := 11) rfl (Or.inl lk_law_few)) e_int) (a_cons (e_var (i := 10) rfl (Or.inl lk_law_bits)) a_nil))) lk_law__law_keeps) a_nil)) lk_law__law_is))) (ss_one (s_ret e_bl)) ss_nil) (ss_one (s_for (i_val (e_lst (a_cons (e_cty (fun _ A => c_list A) T.no_list rfl (a_cons (e_var (i := 10) rfl (Or.inl lk_law_bits)) a_nil) lk_law_list) (a_cons (e_bin (fun _ A => o_add A) (e_var (i := 10) rfl (Or.inl lk_law_bits)) (e_tup (a_cons e_int a_nil))) (a_cons e_non (a_cons e_int (a_cons (e_bin (fun _ A => o_add A) (e_sl (e_var (i := 10) rfl (Or.inl lk_law_bits)) (p_so e_int) p_no) (e_tup (a_cons e_int a_nil))) (a_cons (e_bin (fun _ A => o_add A) (e_sl (e_var (i := 10) rfl (Or.inl lk_law_bits)) (p_so e_int) p_no) (e_tup (a_cons e_bl a_nil))) (a_cons (e_bin (fun _ A => o_add A) (e_sl (e_var (i := 10) rfl (Or.inl lk_law_bits)) (p_so e_int) p_no) (e_tup (a_cons (e_un (fun _ A => o_neg A) e_int) a_nil))) a_nil))))))))) (g_nm ⟨nd_law, rfl, Or.inl lk_law_bad, Or.inl rfl⟩) (ss_one (s_if (t_cmp (fun _ A => o_isnot A) (e_call h_keeps (a_cons (e_tup (a_cons (e_var (i := 8) rfl (Or.inl lk_law_names)) (a_cons (e_tup a_nil) a_nil))) (a_cons (e_var (i := 5) rfl (Or.inl lk_law_bad)) a_nil)) lk_law_keeps) e_bl) (ss_one (s_ret e_bl)) ss_nil))))))))) (ss_cons (s_set ⟨nd_law, rfl, Or.inl lk_law_found, Or.inl rfl⟩ (e_call h__law_pairs (a_cons (e_var (i := 0) rfl (Or.inl lk_law_script)) (a_cons (e_var (i := 8) rfl (Or.inl lk_law_names)) a_nil)) lk_law__law_pairs)) (ss_cons (s_if (t_not (t_tru (e_call h__law_same (a_cons (e_call h_nick_rows (a_cons (e_ix (e_var (i := 4) rfl (Or.inl lk_law_found)) e_int) a_nil) lk_law_nick_rows) (a_cons (e_ix (e_var (i := 4) rfl (Or.inl lk_law_found)) e_int) a_nil)) lk_law__law_same))) (ss_one (s_ret e_bl)) ss_nil) (ss_cons (s_for (i_val (e_lst (a_cons (e_tup (a_cons e_str (a_cons e_str a_nil))) (a_cons (e_tup (a_cons e_str (a_cons e_str (a_cons e_str a_nil)))) (a_cons (e_tup (a_cons e_str (a_cons e_str (a_cons e_str a_nil)))) (a_cons (e_tup (a_cons e_int (a_cons e_str (a_cons e_str a_nil)))) (a_cons (e_lst (a_cons e_str (a_cons e_str (a_cons e_str a_nil)))) (a_cons e_non a_nil)))))))) (g_nm ⟨nd_law, rfl, Or.inl lk_law_bad, Or.inl rfl⟩) (ss_one (s_if (t_w (w_or (t_not (t_tru (e_call h__law_pairs_refused (a_cons (e_bin (fun _ A => o_add A) (e_ix (e_var (i := 4) rfl (Or.inl lk_law_found)) e_int) (e_tup (a_cons (e_var (i := 5) rfl (Or.inl lk_law_bad)) a_nil))) a_nil) lk_law__law_pairs_refused))) (w_or1 (t_not (t_tru (e_call h__law_pairs_refused (a_cons (e_bin (fun _ A => o_add A) (e_tup (a_cons (e_var (i := 5) rfl (Or.inl lk_law_bad)) a_nil)) (e_ix (e_var (i := 4) rfl (Or.inl lk_law_found)) e_int)) a_nil) lk_law__law_pairs_refused)))))) (ss_one (s_ret e_bl)) ss_nil))) (ss_cons (s_if (t_w (w_or (t_not (t_tru (e_call h__law_pairs_refused (a_cons (e_cty (fun _ A => c_list A) T.no_list rfl (a_cons (e_ix (e_var (i := 4) rfl (Or.inl lk_law_found)) e_int) a_nil) lk_law_list) a_nil) lk_law__law_pairs_refused))) (w_or1 (t_not (t_tru (e_call h__law_pairs_refused (a_cons e_str a_nil) lk_law__law_pairs_refused)))))) (ss_one (s_ret e_bl)) ss_nil) (ss_cons (s_set ⟨nd_law, rfl, Or.inl lk_law_wrong, Or.inl rfl⟩ (e_call h__law_wrong (a_cons (e_var (i := 8) rfl (Or.inl lk_law_names)) (a_cons (e_var (i := 9) rfl (Or.inl lk_law_rows)) a_nil)) lk_law__law_wrong)) (ss_cons (s_for (i_rg1 T.no_range (a_cons (e_cb (fun _ A => c_len1 A) T.no_len rfl (a_cons (e_var (i := 6) rfl (Or.inl lk_law_wrong)) a_nil) lk_law_len) a_nil) lk_law_range) (g_nm ⟨nd_law, rfl, Or.inl lk_law_at, Or.inl rfl⟩) (ss_one (s_if (t_w (w_or (t_not (t_tru (e_call h__law_refuses (a_cons e_int (a_cons (e_ix (e_var (i := 6) rfl (Or.inl lk_law_wrong)) (e_var (i := 7) rfl (Or.inl lk_law_at))) a_nil)) lk_law__law_refuses))) (w_or1 (t_not (t_tru (e_call h__law_refuses (a_cons (e_bin (fun _ A => o_add A) e_int (e_bin (fun _ A => o_mod A) (e_cty (fun _ A => c_int A) T.no_int rfl (a_cons (e_bin (fun _ A => o_add A) (e_var (i := 7) rfl (Or.inl lk_law_at)) (e_cb (fun _ A => c_len1 A) T.no_len rfl (a_cons (e_var (i := 9) rfl (Or.inl lk_law_rows)) a_nil) lk_law_len)) a_nil) lk_law_int) e_int)) (a_cons (e_ix (e_var (i := 6) rfl (Or.inl lk_law_wrong)) (e_var (i := 7) rfl (Or.inl lk_law_at))) a_nil)) lk_law__law_refuses)))))) (ss_one (s_ret e_bl)) ss_nil))) (ss_one (s_ret e_bl)))))))))))))
end
theorem all_mk {l : PySem.W.OpenLaw} {w : World} {K : PySem.W.Frag} {h : Heap} {mg : Str → Option Value} {fa : Addr} (X : K.In h) (G : h.Ns mainGlobals mg) (hfa : mg "law" = some (.ref fa)) (hF : ∀ ns : List Int, ns.length ≤ 63 → m_law [.scr ns] = .ok (.v (.bl true)))
    {C_BadNick : Addr} {t_DIGITS : Tok} {t_LETTERS : Tok} {t_MOST_MEMBERS : Tok} {t_MOST_NAMES : Tok} {t_MOST_ROWS : Tok} {f__law_jar : Addr} {oc__law_jar : Value} {kV__law_jar : Value} {dc__law_jar : Value} {pm__law_jar : Value} {cd__law_jar : Value} {ct__law_jar : Value} {od__law_jar : Option Addr} {an__law_jar : Option Addr} {sl__law_jar : Array (Option Value)} {f__law_draw : Addr} {oc__law_draw : Value} {kV__law_draw : Value} {dc__law_draw : Value} {pm__law_draw : Value} {cd__law_draw : Value} {ct__law_draw : Value} {od__law_draw : Option Addr} {an__law_draw : Option Addr} {sl__law_draw : Array (Option Value)} {f__law_fount : Addr} {oc__law_fount : Value} {kV__law_fount : Value} {dc__law_fount : Value} {pm__law_fount : Value} {cd__law_fount : Value} {ct__law_fount : Value} {od__law_fount : Option Addr} {an__law_fount : Option Addr} {sl__law_fount : Array (Option Value)} {f__law_nicks : Addr} {oc__law_nicks : Value} {kV__law_nicks : Value} {dc__law_nicks : Value} {pm__law_nicks : Value} {cd__law_nicks : Value} {ct__law_nicks : Value} {od__law_nicks : Option Addr} {an__law_nicks : Option Addr} {sl__law_nicks : Array (Option Value)} {f__law_pairs : Addr} {oc__law_pairs : Value} {kV__law_pairs : Value} {dc__law_pairs : Value} {pm__law_pairs : Value} {cd__law_pairs : Value} {ct__law_pairs : Value} {od__law_pairs : Option Addr} {an__law_pairs : Option Addr} {sl__law_pairs : Array (Option Value)} {f__law_wrong : Addr} {oc__law_wrong : Value} {kV__law_wrong : Value} {dc__law_wrong : Value} {pm__law_wrong : Value} {cd__law_wrong : Value} {ct__law_wrong : Value} {od__law_wrong : Option Addr} {an__law_wrong : Option Addr} {sl__law_wrong : Array (Option Value)} {f__law_same_one : Addr} {oc__law_same_one : Value} {kV__law_same_one : Value} {dc__law_same_one : Value} {pm__law_same_one : Value} {cd__law_same_one : Value} {ct__law_same_one : Value} {od__law_same_one : Option Addr} {an__law_same_one : Option Addr} {sl__law_same_one : Array (Option Value)} {f__law_same : Addr} {oc__law_same : Value} {kV__law_same : Value} {dc__law_same : Value} {pm__law_same : Value} {cd__law_same : Value} {ct__law_same : Value} {od__law_same : Option Addr} {an__law_same : Option Addr} {sl__law_same : Array (Option Value)} {f_is_tuple_of : Addr} {oc_is_tuple_of : Value} {kV_is_tuple_of : Value} {dc_is_tuple_of : Value} {pm_is_tuple_of : Value} {cd_is_tuple_of : Value} {ct_is_tuple_of : Value} {od_is_tuple_of : Option Addr} {an_is_tuple_of : Option Addr} {sl_is_tuple_of : Array (Option Value)} {f_is_name : Addr} {oc_is_name : Value} {kV_is_name : Value} {dc_is_name : Value} {pm_is_name : Value} {cd_is_name : Value} {ct_is_name : Value} {od_is_name : Option Addr} {an_is_name : Option Addr} {sl_is_name : Array (Option Value)} {f_is_names : Addr} {oc_is_names : Value} {kV_is_names : Value} {dc_is_names : Value} {pm_is_names : Value} {cd_is_names : Value} {ct_is_names : Value} {od_is_names : Option Addr} {an_is_names : Option Addr} {sl_is_names : Array (Option Value)} {f_is_whole : Addr} {oc_is_whole : Value} {kV_is_whole : Value} {dc_is_whole : Value} {pm_is_whole : Value} {cd_is_whole : Value} {ct_is_whole : Value} {od_is_whole : Option Addr} {an_is_whole : Option Addr} {sl_is_whole : Array (Option Value)} {f_is_whole_in : Addr} {oc_is_whole_in : Value} {kV_is_whole_in : Value} {dc_is_whole_in : Value} {pm_is_whole_in : Value} {cd_is_whole_in : Value} {ct_is_whole_in : Value} {od_is_whole_in : Option Addr} {an_is_whole_in : Option Addr} {sl_is_whole_in : Array (Option Value)} {f_check_nicks : Addr} {oc_check_nicks : Value} {kV_check_nicks : Value} {dc_check_nicks : Value} {pm_check_nicks : Value} {cd_check_nicks : Value} {ct_check_nicks : Value} {od_check_nicks : Option Addr} {an_check_nicks : Option Addr} {sl_check_nicks : Array (Option Value)} {f__law_is : Addr} {oc__law_is : Value} {kV__law_is : Value} {dc__law_is : Value} {pm__law_is : Value} {cd__law_is : Value} {ct__law_is : Value} {od__law_is : Option Addr} {an__law_is : Option Addr} {sl__law_is : Array (Option Value)} {f_same_single : Addr} {oc_same_single : Value} {kV_same_single : Value} {dc_same_single : Value} {pm_same_single : Value} {cd_same_single : Value} {ct_same_single : Value} {od_same_single : Option Addr} {an_same_single : Option Addr} {sl_same_single : Array (Option Value)} {f_same : Addr} {oc_same : Value} {kV_same : Value} {dc_same : Value} {pm_same : Value} {cd_same : Value} {ct_same : Value} {od_same : Option Addr} {an_same : Option Addr} {sl_same : Array (Option Value)} {f_nick_row : Addr} {oc_nick_row : Value} {kV_nick_row : Value} {dc_nick_row : Value} {pm_nick_row : Value} {cd_nick_row : Value} {ct_nick_row : Value} {od_nick_row : Option Addr} {an_nick_row : Option Addr} {sl_nick_row : Array (Option Value)} {f_nick_rows : Addr} {oc_nick_rows : Value} {kV_nick_rows : Value} {dc_nick_rows : Value} {pm_nick_rows : Value} {cd_nick_rows : Value} {ct_nick_rows : Value} {od_nick_rows : Option Addr} {an_nick_rows : Option Addr} {sl_nick_rows : Array (Option Value)} {f__law_pairs_refused : Addr} {oc__law_pairs_refused : Value} {kV__law_pairs_refused : Value} {dc__law_pairs_refused : Value} {pm__law_pairs_refused : Value} {cd__law_pairs_refused : Value} {ct__law_pairs_refused : Value} {od__law_pairs_refused : Option Addr} {an__law_pairs_refused : Option Addr} {sl__law_pairs_refused : Array (Option Value)} {f_is_nicking : Addr} {oc_is_nicking : Value} {kV_is_nicking : Value} {dc_is_nicking : Value} {pm_is_nicking : Value} {cd_is_nicking : Value} {ct_is_nicking : Value} {od_is_nicking : Option Addr} {an_is_nicking : Option Addr} {sl_is_nicking : Array (Option Value)} {f_keeps : Addr} {oc_keeps : Value} {kV_keeps : Value} {dc_keeps : Value} {pm_keeps : Value} {cd_keeps : Value} {ct_keeps : Value} {od_keeps : Option Addr} {an_keeps : Option Addr} {sl_keeps : Array (Option Value)} {f__law_keeps : Addr} {oc__law_keeps : Value} {kV__law_keeps : Value} {dc__law_keeps : Value} {pm__law_keeps : Value} {cd__law_keeps : Value} {ct__law_keeps : Value} {od__law_keeps : Option Addr} {an__law_keeps : Option Addr} {sl__law_keeps : Array (Option Value)} {f_added : Addr} {oc_added : Value} {kV_added : Value} {dc_added : Value} {pm_added : Value} {cd_added : Value} {ct_added : Value} {od_added : Option Addr} {an_added : Option Addr} {sl_added : Array (Option Value)} {f_without_leads : Addr} {oc_without_leads : Value} {kV_without_leads : Value} {dc_without_leads : Value} {pm_without_leads : Value} {cd_without_leads : Value} {ct_without_leads : Value} {od_without_leads : Option Addr} {an_without_leads : Option Addr} {sl_without_leads : Array (Option Value)} {f_last_name : Addr} {oc_last_name : Value} {kV_last_name : Value} {dc_last_name : Value} {pm_last_name : Value} {cd_last_name : Value} {ct_last_name : Value} {od_last_name : Option Addr} {an_last_name : Option Addr} {sl_last_name : Array (Option Value)} {f_line_of : Addr} {oc_line_of : Value} {kV_line_of : Value} {dc_line_of : Value} {pm_line_of : Value} {cd_line_of : Value} {ct_line_of : Value} {od_line_of : Option Addr} {an_line_of : Option Addr} {sl_line_of : Array (Option Value)} {f_solved : Addr} {oc_solved : Value} {kV_solved : Value} {dc_solved : Value} {pm_solved : Value} {cd_solved : Value} {ct_solved : Value} {od_solved : Option Addr} {an_solved : Option Addr} {sl_solved : Array (Option Value)} {f_settle_nicks : Addr} {oc_settle_nicks : Value} {kV_settle_nicks : Value} {dc_settle_nicks : Value} {pm_settle_nicks : Value} {cd_settle_nicks : Value} {ct_settle_nicks : Value} {od_settle_nicks : Option Addr} {an_settle_nicks : Option Addr} {sl_settle_nicks : Array (Option Value)} {f_is_rising : Addr} {oc_is_rising : Value} {kV_is_rising : Value} {dc_is_rising : Value} {pm_is_rising : Value} {cd_is_rising : Value} {ct_is_rising : Value} {od_is_rising : Option Addr} {an_is_rising : Option Addr} {sl_is_rising : Array (Option Value)} {f_is_clash : Addr} {oc_is_clash : Value} {kV_is_clash : Value} {dc_is_clash : Value} {pm_is_clash : Value} {cd_is_clash : Value} {ct_is_clash : Value} {od_is_clash : Option Addr} {an_is_clash : Option Addr} {sl_is_clash : Array (Option Value)} {f_is_answer : Addr} {oc_is_answer : Value} {kV_is_answer : Value} {dc_is_answer : Value} {pm_is_answer : Value} {cd_is_answer : Value} {ct_is_answer : Value} {od_is_answer : Option Addr} {an_is_answer : Option Addr} {sl_is_answer : Array (Option Value)} {f_upholds_nicks : Addr} {oc_upholds_nicks : Value} {kV_upholds_nicks : Value} {dc_upholds_nicks : Value} {pm_upholds_nicks : Value} {cd_upholds_nicks : Value} {ct_upholds_nicks : Value} {od_upholds_nicks : Option Addr} {an_upholds_nicks : Option Addr} {sl_upholds_nicks : Array (Option Value)} {f_check_among : Addr} {oc_check_among : Value} {kV_check_among : Value} {dc_check_among : Value} {pm_check_among : Value} {cd_check_among : Value} {ct_check_among : Value} {od_check_among : Option Addr} {an_check_among : Option Addr} {sl_check_among : Array (Option Value)} {f_in_free_names : Addr} {oc_in_free_names : Value} {kV_in_free_names : Value} {dc_in_free_names : Value} {pm_in_free_names : Value} {cd_in_free_names : Value} {ct_in_free_names : Value} {od_in_free_names : Option Addr} {an_in_free_names : Option Addr} {sl_in_free_names : Array (Option Value)} {f_told_apart : Addr} {oc_told_apart : Value} {kV_told_apart : Value} {dc_told_apart : Value} {pm_told_apart : Value} {cd_told_apart : Value} {ct_told_apart : Value} {od_told_apart : Option Addr} {an_told_apart : Option Addr} {sl_told_apart : Array (Option Value)} {f_freedom : Addr} {oc_freedom : Value} {kV_freedom : Value} {dc_freedom : Value} {pm_freedom : Value} {cd_freedom : Value} {ct_freedom : Value} {od_freedom : Option Addr} {an_freedom : Option Addr} {sl_freedom : Array (Option Value)} {f__law_refuses : Addr} {oc__law_refuses : Value} {kV__law_refuses : Value} {dc__law_refuses : Value} {pm__law_refuses : Value} {cd__law_refuses : Value} {ct__law_refuses : Value} {od__law_refuses : Option Addr} {an__law_refuses : Option Addr} {sl__law_refuses : Array (Option Value)} {f_law : Addr} {oc_law : Value} {kV_law : Value} {dc_law : Value} {pm_law : Value} {cd_law : Value} {ct_law : Value} {od_law : Option Addr} {an_law : Option Addr} {sl_law : Array (Option Value)}
    (g_BadNick : PySem.W.nsIn K mainGlobals "BadNick" = some (some (.ref C_BadNick)))
    (s_BadNick : PySem.W.subIn K (.ref C_BadNick) (.type "BaseException") = some true)
    (t_BadNick : PySem.W.typeIn K (.ref C_BadNick) = some (.type "type"))
    (e_BadNick : PySem.W.excIn K C_BadNick [.type "ValueError", .type "Exception", .type "BaseException", .type "object"] "ValueError.__new__" = true)
    (k_BadNick : PySem.W.keepIn K (.ref C_BadNick) = true)
    (d_BadNick : PySem.W.hasDictIn K C_BadNick = true)
    (x1_BadNick : PySem.W.findIn K (.ref C_BadNick) "__getattribute__" = some (some (.builtin "BaseException.__getattribute__")))
    (x2_BadNick : PySem.W.findIn K (.ref C_BadNick) "__getattr__" = some none)
    (x3_BadNick : PySem.W.findIn K (.ref C_BadNick) "__class__" = some (some (.builtin "object.__class__")))
    (x4_BadNick : PySem.W.mroIn K C_BadNick (.type "object") = some true)
    (xs : PySem.W.specialIn K (.builtin "object.__class__") "__get__" = some (some (.builtin "getset_descriptor.__get__")))
    (xt : PySem.W.takesIn K (.builtin "object.__class__") = some true)
    (ct_BadNick_BadNick : PySem.W.subIn K (.ref C_BadNick) (.ref C_BadNick) = some true)
    (is_ValueError_BadNick : PySem.W.kitOne K (.ref C_BadNick) (.type "ValueError") = some true)
    (v_DIGITS : PySem.W.nsIn K mainGlobals "DIGITS" = some (some (.str "0123456789" t_DIGITS)))
    (v_LETTERS : PySem.W.nsIn K mainGlobals "LETTERS" = some (some (.str "abcdefghijklmnopqrstuvwxyz" t_LETTERS)))
    (v_MOST_MEMBERS : PySem.W.nsIn K mainGlobals "MOST_MEMBERS" = some (some (.int 6 t_MOST_MEMBERS)))
    (v_MOST_NAMES : PySem.W.nsIn K mainGlobals "MOST_NAMES" = some (some (.int 12 t_MOST_NAMES)))
    (v_MOST_ROWS : PySem.W.nsIn K mainGlobals "MOST_ROWS" = some (some (.int 24 t_MOST_ROWS)))
    (n_ValueError : PySem.W.nsIn K mainGlobals "ValueError" = some none)
    (n_abs : PySem.W.nsIn K mainGlobals "abs" = some none)
    (n_bool : PySem.W.nsIn K mainGlobals "bool" = some none)
    (n_int : PySem.W.nsIn K mainGlobals "int" = some none)
    (n_isinstance : PySem.W.nsIn K mainGlobals "isinstance" = some none)
    (n_len : PySem.W.nsIn K mainGlobals "len" = some none)
    (n_list : PySem.W.nsIn K mainGlobals "list" = some none)
    (n_min : PySem.W.nsIn K mainGlobals "min" = some none)
    (n_range : PySem.W.nsIn K mainGlobals "range" = some none)
    (n_str : PySem.W.nsIn K mainGlobals "str" = some none)
    (n_sum : PySem.W.nsIn K mainGlobals "sum" = some none)
    (n_tuple : PySem.W.nsIn K mainGlobals "tuple" = some none)
    (n_zip : PySem.W.nsIn K mainGlobals "zip" = some none)
    (a__law_jar : PySem.W.nsIn K mainGlobals "_law_jar" = some (some (.ref f__law_jar)))
    (l__law_jar : K.lookup f__law_jar = some ⟨oc__law_jar, od__law_jar, .func (PySem.W.fnOf "_law_jar" "_law_jar" (defArgs st__law_jar) (defBody st__law_jar) (defScope st__law_jar) .none kV__law_jar dc__law_jar pm__law_jar an__law_jar cd__law_jar ct__law_jar), sl__law_jar⟩)
    (c__law_jar : PySem.W.codeIn K cd__law_jar "_law_jar" = true)
    (k__law_jar : PySem.W.keepIn K (.ref f__law_jar) = true)
    (a__law_draw : PySem.W.nsIn K mainGlobals "_law_draw" = some (some (.ref f__law_draw)))
    (l__law_draw : K.lookup f__law_draw = some ⟨oc__law_draw, od__law_draw, .func (PySem.W.fnOf "_law_draw" "_law_draw" (defArgs st__law_draw) (defBody st__law_draw) (defScope st__law_draw) .none kV__law_draw dc__law_draw pm__law_draw an__law_draw cd__law_draw ct__law_draw), sl__law_draw⟩)
    (c__law_draw : PySem.W.codeIn K cd__law_draw "_law_draw" = true)
    (k__law_draw : PySem.W.keepIn K (.ref f__law_draw) = true)
    (a__law_fount : PySem.W.nsIn K mainGlobals "_law_fount" = some (some (.ref f__law_fount)))
    (l__law_fount : K.lookup f__law_fount = some ⟨oc__law_fount, od__law_fount, .func (PySem.W.fnOf "_law_fount" "_law_fount" (defArgs st__law_fount) (defBody st__law_fount) (defScope st__law_fount) .none kV__law_fount dc__law_fount pm__law_fount an__law_fount cd__law_fount ct__law_fount), sl__law_fount⟩)
    (c__law_fount : PySem.W.codeIn K cd__law_fount "_law_fount" = true)
    (k__law_fount : PySem.W.keepIn K (.ref f__law_fount) = true)
    (a__law_nicks : PySem.W.nsIn K mainGlobals "_law_nicks" = some (some (.ref f__law_nicks)))
    (l__law_nicks : K.lookup f__law_nicks = some ⟨oc__law_nicks, od__law_nicks, .func (PySem.W.fnOf "_law_nicks" "_law_nicks" (defArgs st__law_nicks) (defBody st__law_nicks) (defScope st__law_nicks) .none kV__law_nicks dc__law_nicks pm__law_nicks an__law_nicks cd__law_nicks ct__law_nicks), sl__law_nicks⟩)
    (c__law_nicks : PySem.W.codeIn K cd__law_nicks "_law_nicks" = true)
    (k__law_nicks : PySem.W.keepIn K (.ref f__law_nicks) = true)
    (a__law_pairs : PySem.W.nsIn K mainGlobals "_law_pairs" = some (some (.ref f__law_pairs)))
    (l__law_pairs : K.lookup f__law_pairs = some ⟨oc__law_pairs, od__law_pairs, .func (PySem.W.fnOf "_law_pairs" "_law_pairs" (defArgs st__law_pairs) (defBody st__law_pairs) (defScope st__law_pairs) .none kV__law_pairs dc__law_pairs pm__law_pairs an__law_pairs cd__law_pairs ct__law_pairs), sl__law_pairs⟩)
    (c__law_pairs : PySem.W.codeIn K cd__law_pairs "_law_pairs" = true)
    (k__law_pairs : PySem.W.keepIn K (.ref f__law_pairs) = true)
    (a__law_wrong : PySem.W.nsIn K mainGlobals "_law_wrong" = some (some (.ref f__law_wrong)))
    (l__law_wrong : K.lookup f__law_wrong = some ⟨oc__law_wrong, od__law_wrong, .func (PySem.W.fnOf "_law_wrong" "_law_wrong" (defArgs st__law_wrong) (defBody st__law_wrong) (defScope st__law_wrong) .none kV__law_wrong dc__law_wrong pm__law_wrong an__law_wrong cd__law_wrong ct__law_wrong), sl__law_wrong⟩)
    (c__law_wrong : PySem.W.codeIn K cd__law_wrong "_law_wrong" = true)
    (k__law_wrong : PySem.W.keepIn K (.ref f__law_wrong) = true)
    (a__law_same_one : PySem.W.nsIn K mainGlobals "_law_same_one" = some (some (.ref f__law_same_one)))
    (l__law_same_one : K.lookup f__law_same_one = some ⟨oc__law_same_one, od__law_same_one, .func (PySem.W.fnOf "_law_same_one" "_law_same_one" (defArgs st__law_same_one) (defBody st__law_same_one) (defScope st__law_same_one) .none kV__law_same_one dc__law_same_one pm__law_same_one an__law_same_one cd__law_same_one ct__law_same_one), sl__law_same_one⟩)
    (c__law_same_one : PySem.W.codeIn K cd__law_same_one "_law_same_one" = true)
    (k__law_same_one : PySem.W.keepIn K (.ref f__law_same_one) = true)
    (a__law_same : PySem.W.nsIn K mainGlobals "_law_same" = some (some (.ref f__law_same)))
    (l__law_same : K.lookup f__law_same = some ⟨oc__law_same, od__law_same, .func (PySem.W.fnOf "_law_same" "_law_same" (defArgs st__law_same) (defBody st__law_same) (defScope st__law_same) .none kV__law_same dc__law_same pm__law_same an__law_same cd__law_same ct__law_same), sl__law_same⟩)
    (c__law_same : PySem.W.codeIn K cd__law_same "_law_same" = true)
    (k__law_same : PySem.W.keepIn K (.ref f__law_same) = true)
    (a_is_tuple_of : PySem.W.nsIn K mainGlobals "is_tuple_of" = some (some (.ref f_is_tuple_of)))
    (l_is_tuple_of : K.lookup f_is_tuple_of = some ⟨oc_is_tuple_of, od_is_tuple_of, .func (PySem.W.fnOf "is_tuple_of" "is_tuple_of" (defArgs st_is_tuple_of) (defBody st_is_tuple_of) (defScope st_is_tuple_of) .none kV_is_tuple_of dc_is_tuple_of pm_is_tuple_of an_is_tuple_of cd_is_tuple_of ct_is_tuple_of), sl_is_tuple_of⟩)
    (c_is_tuple_of : PySem.W.codeIn K cd_is_tuple_of "is_tuple_of" = true)
    (k_is_tuple_of : PySem.W.keepIn K (.ref f_is_tuple_of) = true)
    (a_is_name : PySem.W.nsIn K mainGlobals "is_name" = some (some (.ref f_is_name)))
    (l_is_name : K.lookup f_is_name = some ⟨oc_is_name, od_is_name, .func (PySem.W.fnOf "is_name" "is_name" (defArgs st_is_name) (defBody st_is_name) (defScope st_is_name) .none kV_is_name dc_is_name pm_is_name an_is_name cd_is_name ct_is_name), sl_is_name⟩)
    (c_is_name : PySem.W.codeIn K cd_is_name "is_name" = true)
    (k_is_name : PySem.W.keepIn K (.ref f_is_name) = true)
    (a_is_names : PySem.W.nsIn K mainGlobals "is_names" = some (some (.ref f_is_names)))
    (l_is_names : K.lookup f_is_names = some ⟨oc_is_names, od_is_names, .func (PySem.W.fnOf "is_names" "is_names" (defArgs st_is_names) (defBody st_is_names) (defScope st_is_names) .none kV_is_names dc_is_names pm_is_names an_is_names cd_is_names ct_is_names), sl_is_names⟩)
    (c_is_names : PySem.W.codeIn K cd_is_names "is_names" = true)
    (k_is_names : PySem.W.keepIn K (.ref f_is_names) = true)
    (a_is_whole : PySem.W.nsIn K mainGlobals "is_whole" = some (some (.ref f_is_whole)))
    (l_is_whole : K.lookup f_is_whole = some ⟨oc_is_whole, od_is_whole, .func (PySem.W.fnOf "is_whole" "is_whole" (defArgs st_is_whole) (defBody st_is_whole) (defScope st_is_whole) .none kV_is_whole dc_is_whole pm_is_whole an_is_whole cd_is_whole ct_is_whole), sl_is_whole⟩)
    (c_is_whole : PySem.W.codeIn K cd_is_whole "is_whole" = true)
    (k_is_whole : PySem.W.keepIn K (.ref f_is_whole) = true)
    (a_is_whole_in : PySem.W.nsIn K mainGlobals "is_whole_in" = some (some (.ref f_is_whole_in)))
    (l_is_whole_in : K.lookup f_is_whole_in = some ⟨oc_is_whole_in, od_is_whole_in, .func (PySem.W.fnOf "is_whole_in" "is_whole_in" (defArgs st_is_whole_in) (defBody st_is_whole_in) (defScope st_is_whole_in) .none kV_is_whole_in dc_is_whole_in pm_is_whole_in an_is_whole_in cd_is_whole_in ct_is_whole_in), sl_is_whole_in⟩)
    (c_is_whole_in : PySem.W.codeIn K cd_is_whole_in "is_whole_in" = true)
    (k_is_whole_in : PySem.W.keepIn K (.ref f_is_whole_in) = true)
    (a_check_nicks : PySem.W.nsIn K mainGlobals "check_nicks" = some (some (.ref f_check_nicks)))
    (l_check_nicks : K.lookup f_check_nicks = some ⟨oc_check_nicks, od_check_nicks, .func (PySem.W.fnOf "check_nicks" "check_nicks" (defArgs st_check_nicks) (defBody st_check_nicks) (defScope st_check_nicks) .none kV_check_nicks dc_check_nicks pm_check_nicks an_check_nicks cd_check_nicks ct_check_nicks), sl_check_nicks⟩)
    (c_check_nicks : PySem.W.codeIn K cd_check_nicks "check_nicks" = true)
    (k_check_nicks : PySem.W.keepIn K (.ref f_check_nicks) = true)
    (a__law_is : PySem.W.nsIn K mainGlobals "_law_is" = some (some (.ref f__law_is)))
    (l__law_is : K.lookup f__law_is = some ⟨oc__law_is, od__law_is, .func (PySem.W.fnOf "_law_is" "_law_is" (defArgs st__law_is) (defBody st__law_is) (defScope st__law_is) .none kV__law_is dc__law_is pm__law_is an__law_is cd__law_is ct__law_is), sl__law_is⟩)
    (c__law_is : PySem.W.codeIn K cd__law_is "_law_is" = true)
    (k__law_is : PySem.W.keepIn K (.ref f__law_is) = true)
    (a_same_single : PySem.W.nsIn K mainGlobals "same_single" = some (some (.ref f_same_single)))
    (l_same_single : K.lookup f_same_single = some ⟨oc_same_single, od_same_single, .func (PySem.W.fnOf "same_single" "same_single" (defArgs st_same_single) (defBody st_same_single) (defScope st_same_single) .none kV_same_single dc_same_single pm_same_single an_same_single cd_same_single ct_same_single), sl_same_single⟩)
    (c_same_single : PySem.W.codeIn K cd_same_single "same_single" = true)
    (k_same_single : PySem.W.keepIn K (.ref f_same_single) = true)
    (a_same : PySem.W.nsIn K mainGlobals "same" = some (some (.ref f_same)))
    (l_same : K.lookup f_same = some ⟨oc_same, od_same, .func (PySem.W.fnOf "same" "same" (defArgs st_same) (defBody st_same) (defScope st_same) .none kV_same dc_same pm_same an_same cd_same ct_same), sl_same⟩)
    (c_same : PySem.W.codeIn K cd_same "same" = true)
    (k_same : PySem.W.keepIn K (.ref f_same) = true)
    (a_nick_row : PySem.W.nsIn K mainGlobals "nick_row" = some (some (.ref f_nick_row)))
    (l_nick_row : K.lookup f_nick_row = some ⟨oc_nick_row, od_nick_row, .func (PySem.W.fnOf "nick_row" "nick_row" (defArgs st_nick_row) (defBody st_nick_row) (defScope st_nick_row) .none kV_nick_row dc_nick_row pm_nick_row an_nick_row cd_nick_row ct_nick_row), sl_nick_row⟩)
    (c_nick_row : PySem.W.codeIn K cd_nick_row "nick_row" = true)
    (k_nick_row : PySem.W.keepIn K (.ref f_nick_row) = true)
    (a_nick_rows : PySem.W.nsIn K mainGlobals "nick_rows" = some (some (.ref f_nick_rows)))
    (l_nick_rows : K.lookup f_nick_rows = some ⟨oc_nick_rows, od_nick_rows, .func (PySem.W.fnOf "nick_rows" "nick_rows" (defArgs st_nick_rows) (defBody st_nick_rows) (defScope st_nick_rows) .none kV_nick_rows dc_nick_rows pm_nick_rows an_nick_rows cd_nick_rows ct_nick_rows), sl_nick_rows⟩)
    (c_nick_rows : PySem.W.codeIn K cd_nick_rows "nick_rows" = true)
    (k_nick_rows : PySem.W.keepIn K (.ref f_nick_rows) = true)
    (a__law_pairs_refused : PySem.W.nsIn K mainGlobals "_law_pairs_refused" = some (some (.ref f__law_pairs_refused)))
    (l__law_pairs_refused : K.lookup f__law_pairs_refused = some ⟨oc__law_pairs_refused, od__law_pairs_refused, .func (PySem.W.fnOf "_law_pairs_refused" "_law_pairs_refused" (defArgs st__law_pairs_refused) (defBody st__law_pairs_refused) (defScope st__law_pairs_refused) .none kV__law_pairs_refused dc__law_pairs_refused pm__law_pairs_refused an__law_pairs_refused cd__law_pairs_refused ct__law_pairs_refused), sl__law_pairs_refused⟩)
    (c__law_pairs_refused : PySem.W.codeIn K cd__law_pairs_refused "_law_pairs_refused" = true)
    (k__law_pairs_refused : PySem.W.keepIn K (.ref f__law_pairs_refused) = true)
    (a_is_nicking : PySem.W.nsIn K mainGlobals "is_nicking" = some (some (.ref f_is_nicking)))
    (l_is_nicking : K.lookup f_is_nicking = some ⟨oc_is_nicking, od_is_nicking, .func (PySem.W.fnOf "is_nicking" "is_nicking" (defArgs st_is_nicking) (defBody st_is_nicking) (defScope st_is_nicking) .none kV_is_nicking dc_is_nicking pm_is_nicking an_is_nicking cd_is_nicking ct_is_nicking), sl_is_nicking⟩)
    (c_is_nicking : PySem.W.codeIn K cd_is_nicking "is_nicking" = true)
    (k_is_nicking : PySem.W.keepIn K (.ref f_is_nicking) = true)
    (a_keeps : PySem.W.nsIn K mainGlobals "keeps" = some (some (.ref f_keeps)))
    (l_keeps : K.lookup f_keeps = some ⟨oc_keeps, od_keeps, .func (PySem.W.fnOf "keeps" "keeps" (defArgs st_keeps) (defBody st_keeps) (defScope st_keeps) .none kV_keeps dc_keeps pm_keeps an_keeps cd_keeps ct_keeps), sl_keeps⟩)
    (c_keeps : PySem.W.codeIn K cd_keeps "keeps" = true)
    (k_keeps : PySem.W.keepIn K (.ref f_keeps) = true)
    (a__law_keeps : PySem.W.nsIn K mainGlobals "_law_keeps" = some (some (.ref f__law_keeps)))
    (l__law_keeps : K.lookup f__law_keeps = some ⟨oc__law_keeps, od__law_keeps, .func (PySem.W.fnOf "_law_keeps" "_law_keeps" (defArgs st__law_keeps) (defBody st__law_keeps) (defScope st__law_keeps) .none kV__law_keeps dc__law_keeps pm__law_keeps an__law_keeps cd__law_keeps ct__law_keeps), sl__law_keeps⟩)
    (c__law_keeps : PySem.W.codeIn K cd__law_keeps "_law_keeps" = true)
    (k__law_keeps : PySem.W.keepIn K (.ref f__law_keeps) = true)
    (a_added : PySem.W.nsIn K mainGlobals "added" = some (some (.ref f_added)))
    (l_added : K.lookup f_added = some ⟨oc_added, od_added, .func (PySem.W.fnOf "added" "added" (defArgs st_added) (defBody st_added) (defScope st_added) .none kV_added dc_added pm_added an_added cd_added ct_added), sl_added⟩)
    (c_added : PySem.W.codeIn K cd_added "added" = true)
    (k_added : PySem.W.keepIn K (.ref f_added) = true)
    (a_without_leads : PySem.W.nsIn K mainGlobals "without_leads" = some (some (.ref f_without_leads)))
    (l_without_leads : K.lookup f_without_leads = some ⟨oc_without_leads, od_without_leads, .func (PySem.W.fnOf "without_leads" "without_leads" (defArgs st_without_leads) (defBody st_without_leads) (defScope st_without_leads) .none kV_without_leads dc_without_leads pm_without_leads an_without_leads cd_without_leads ct_without_leads), sl_without_leads⟩)
    (c_without_leads : PySem.W.codeIn K cd_without_leads "without_leads" = true)
    (k_without_leads : PySem.W.keepIn K (.ref f_without_leads) = true)
    (a_last_name : PySem.W.nsIn K mainGlobals "last_name" = some (some (.ref f_last_name)))
    (l_last_name : K.lookup f_last_name = some ⟨oc_last_name, od_last_name, .func (PySem.W.fnOf "last_name" "last_name" (defArgs st_last_name) (defBody st_last_name) (defScope st_last_name) .none kV_last_name dc_last_name pm_last_name an_last_name cd_last_name ct_last_name), sl_last_name⟩)
    (c_last_name : PySem.W.codeIn K cd_last_name "last_name" = true)
    (k_last_name : PySem.W.keepIn K (.ref f_last_name) = true)
    (a_line_of : PySem.W.nsIn K mainGlobals "line_of" = some (some (.ref f_line_of)))
    (l_line_of : K.lookup f_line_of = some ⟨oc_line_of, od_line_of, .func (PySem.W.fnOf "line_of" "line_of" (defArgs st_line_of) (defBody st_line_of) (defScope st_line_of) .none kV_line_of dc_line_of pm_line_of an_line_of cd_line_of ct_line_of), sl_line_of⟩)
    (c_line_of : PySem.W.codeIn K cd_line_of "line_of" = true)
    (k_line_of : PySem.W.keepIn K (.ref f_line_of) = true)
    (a_solved : PySem.W.nsIn K mainGlobals "solved" = some (some (.ref f_solved)))
    (l_solved : K.lookup f_solved = some ⟨oc_solved, od_solved, .func (PySem.W.fnOf "solved" "solved" (defArgs st_solved) (defBody st_solved) (defScope st_solved) .none kV_solved dc_solved pm_solved an_solved cd_solved ct_solved), sl_solved⟩)
    (c_solved : PySem.W.codeIn K cd_solved "solved" = true)
    (k_solved : PySem.W.keepIn K (.ref f_solved) = true)
    (a_settle_nicks : PySem.W.nsIn K mainGlobals "settle_nicks" = some (some (.ref f_settle_nicks)))
    (l_settle_nicks : K.lookup f_settle_nicks = some ⟨oc_settle_nicks, od_settle_nicks, .func (PySem.W.fnOf "settle_nicks" "settle_nicks" (defArgs st_settle_nicks) (defBody st_settle_nicks) (defScope st_settle_nicks) .none kV_settle_nicks dc_settle_nicks pm_settle_nicks an_settle_nicks cd_settle_nicks ct_settle_nicks), sl_settle_nicks⟩)
    (c_settle_nicks : PySem.W.codeIn K cd_settle_nicks "settle_nicks" = true)
    (k_settle_nicks : PySem.W.keepIn K (.ref f_settle_nicks) = true)
    (a_is_rising : PySem.W.nsIn K mainGlobals "is_rising" = some (some (.ref f_is_rising)))
    (l_is_rising : K.lookup f_is_rising = some ⟨oc_is_rising, od_is_rising, .func (PySem.W.fnOf "is_rising" "is_rising" (defArgs st_is_rising) (defBody st_is_rising) (defScope st_is_rising) .none kV_is_rising dc_is_rising pm_is_rising an_is_rising cd_is_rising ct_is_rising), sl_is_rising⟩)
    (c_is_rising : PySem.W.codeIn K cd_is_rising "is_rising" = true)
    (k_is_rising : PySem.W.keepIn K (.ref f_is_rising) = true)
    (a_is_clash : PySem.W.nsIn K mainGlobals "is_clash" = some (some (.ref f_is_clash)))
    (l_is_clash : K.lookup f_is_clash = some ⟨oc_is_clash, od_is_clash, .func (PySem.W.fnOf "is_clash" "is_clash" (defArgs st_is_clash) (defBody st_is_clash) (defScope st_is_clash) .none kV_is_clash dc_is_clash pm_is_clash an_is_clash cd_is_clash ct_is_clash), sl_is_clash⟩)
    (c_is_clash : PySem.W.codeIn K cd_is_clash "is_clash" = true)
    (k_is_clash : PySem.W.keepIn K (.ref f_is_clash) = true)
    (a_is_answer : PySem.W.nsIn K mainGlobals "is_answer" = some (some (.ref f_is_answer)))
    (l_is_answer : K.lookup f_is_answer = some ⟨oc_is_answer, od_is_answer, .func (PySem.W.fnOf "is_answer" "is_answer" (defArgs st_is_answer) (defBody st_is_answer) (defScope st_is_answer) .none kV_is_answer dc_is_answer pm_is_answer an_is_answer cd_is_answer ct_is_answer), sl_is_answer⟩)
    (c_is_answer : PySem.W.codeIn K cd_is_answer "is_answer" = true)
    (k_is_answer : PySem.W.keepIn K (.ref f_is_answer) = true)
    (a_upholds_nicks : PySem.W.nsIn K mainGlobals "upholds_nicks" = some (some (.ref f_upholds_nicks)))
    (l_upholds_nicks : K.lookup f_upholds_nicks = some ⟨oc_upholds_nicks, od_upholds_nicks, .func (PySem.W.fnOf "upholds_nicks" "upholds_nicks" (defArgs st_upholds_nicks) (defBody st_upholds_nicks) (defScope st_upholds_nicks) .none kV_upholds_nicks dc_upholds_nicks pm_upholds_nicks an_upholds_nicks cd_upholds_nicks ct_upholds_nicks), sl_upholds_nicks⟩)
    (c_upholds_nicks : PySem.W.codeIn K cd_upholds_nicks "upholds_nicks" = true)
    (k_upholds_nicks : PySem.W.keepIn K (.ref f_upholds_nicks) = true)
    (a_check_among : PySem.W.nsIn K mainGlobals "check_among" = some (some (.ref f_check_among)))
    (l_check_among : K.lookup f_check_among = some ⟨oc_check_among, od_check_among, .func (PySem.W.fnOf "check_among" "check_among" (defArgs st_check_among) (defBody st_check_among) (defScope st_check_among) .none kV_check_among dc_check_among pm_check_among an_check_among cd_check_among ct_check_among), sl_check_among⟩)
    (c_check_among : PySem.W.codeIn K cd_check_among "check_among" = true)
    (k_check_among : PySem.W.keepIn K (.ref f_check_among) = true)
    (a_in_free_names : PySem.W.nsIn K mainGlobals "in_free_names" = some (some (.ref f_in_free_names)))
    (l_in_free_names : K.lookup f_in_free_names = some ⟨oc_in_free_names, od_in_free_names, .func (PySem.W.fnOf "in_free_names" "in_free_names" (defArgs st_in_free_names) (defBody st_in_free_names) (defScope st_in_free_names) .none kV_in_free_names dc_in_free_names pm_in_free_names an_in_free_names cd_in_free_names ct_in_free_names), sl_in_free_names⟩)
    (c_in_free_names : PySem.W.codeIn K cd_in_free_names "in_free_names" = true)
    (k_in_free_names : PySem.W.keepIn K (.ref f_in_free_names) = true)
    (a_told_apart : PySem.W.nsIn K mainGlobals "told_apart" = some (some (.ref f_told_apart)))
    (l_told_apart : K.lookup f_told_apart = some ⟨oc_told_apart, od_told_apart, .func (PySem.W.fnOf "told_apart" "told_apart" (defArgs st_told_apart) (defBody st_told_apart) (defScope st_told_apart) .none kV_told_apart dc_told_apart pm_told_apart an_told_apart cd_told_apart ct_told_apart), sl_told_apart⟩)
    (c_told_apart : PySem.W.codeIn K cd_told_apart "told_apart" = true)
    (k_told_apart : PySem.W.keepIn K (.ref f_told_apart) = true)
    (a_freedom : PySem.W.nsIn K mainGlobals "freedom" = some (some (.ref f_freedom)))
    (l_freedom : K.lookup f_freedom = some ⟨oc_freedom, od_freedom, .func (PySem.W.fnOf "freedom" "freedom" (defArgs st_freedom) (defBody st_freedom) (defScope st_freedom) .none kV_freedom dc_freedom pm_freedom an_freedom cd_freedom ct_freedom), sl_freedom⟩)
    (c_freedom : PySem.W.codeIn K cd_freedom "freedom" = true)
    (k_freedom : PySem.W.keepIn K (.ref f_freedom) = true)
    (a__law_refuses : PySem.W.nsIn K mainGlobals "_law_refuses" = some (some (.ref f__law_refuses)))
    (l__law_refuses : K.lookup f__law_refuses = some ⟨oc__law_refuses, od__law_refuses, .func (PySem.W.fnOf "_law_refuses" "_law_refuses" (defArgs st__law_refuses) (defBody st__law_refuses) (defScope st__law_refuses) .none kV__law_refuses dc__law_refuses pm__law_refuses an__law_refuses cd__law_refuses ct__law_refuses), sl__law_refuses⟩)
    (c__law_refuses : PySem.W.codeIn K cd__law_refuses "_law_refuses" = true)
    (k__law_refuses : PySem.W.keepIn K (.ref f__law_refuses) = true)
    (a_law : PySem.W.nsIn K mainGlobals "law" = some (some (.ref f_law)))
    (l_law : K.lookup f_law = some ⟨oc_law, od_law, .func (PySem.W.fnOf "law" "law" (defArgs st_law) (defBody st_law) (defScope st_law) .none kV_law dc_law pm_law an_law cd_law ct_law), sl_law⟩)
    (c_law : PySem.W.codeIn K cd_law "law" = true)
    (k_law : PySem.W.keepIn K (.ref f_law) = true)
    : ∃ fd : FuncData, (∀ (s : Shared) (v : Value), BindsTo s fd ⟨[v], []⟩ [("script", v)]) ∧ ∀ base : Heap, K.In base → base.Ns mainGlobals mg → FnOk l.prog w K mg base (L2.CX l.prog w) 7 fa fd ["script"] (spL K) := by
  have e := hfa.symm.trans (PySem.W.mg_of X G a_law)
  cases e
  have ex_BadNick : ExcC K C_BadNick := ⟨x1_BadNick, x2_BadNick, s_BadNick, d_BadNick, x3_BadNick, xs, xt, x4_BadNick⟩
  have T : Txt K mg := {
    cat_BadNick := (Cat0.cons X G g_BadNick g_BadNick s_BadNick d_BadNick t_BadNick ct_BadNick_BadNick (Cat0.nil X G g_BadNick)),
    con_DIGITS := Con0.str X G v_DIGITS,
    con_LETTERS := Con0.str X G v_LETTERS,
    con_MOST_MEMBERS := Con0.int X G v_MOST_MEMBERS,
    con_MOST_NAMES := Con0.int X G v_MOST_NAMES,
    con_MOST_ROWS := Con0.int X G v_MOST_ROWS,
    ise_ValueError := (IsE0.consB X G n_ValueError rfl g_BadNick ex_BadNick is_ValueError_BadNick (IsE0.nilB X G n_ValueError rfl)),
    no_abs := PySem.W.mg_none_of X G n_abs,
    no_bool := PySem.W.mg_none_of X G n_bool,
    no_int := PySem.W.mg_none_of X G n_int,
    no_isinstance := PySem.W.mg_none_of X G n_isinstance,
    no_len := PySem.W.mg_none_of X G n_len,
    no_list := PySem.W.mg_none_of X G n_list,
    no_min := PySem.W.mg_none_of X G n_min,
    no_range := PySem.W.mg_none_of X G n_range,
    no_str := PySem.W.mg_none_of X G n_str,
    no_sum := PySem.W.mg_none_of X G n_sum,
    no_tuple := PySem.W.mg_none_of X G n_tuple,
    no_zip := PySem.W.mg_none_of X G n_zip,
    exc_BadNick := Exc0.mk' X G g_BadNick e_BadNick k_BadNick s_BadNick t_BadNick,
    fn__law_jar := FnT.mk' X G a__law_jar l__law_jar c__law_jar k__law_jar fun _ _ _ _ _ _ us hl => match us, hl with | [_, _], _ => rfl,
    fn__law_draw := FnT.mk' X G a__law_draw l__law_draw c__law_draw k__law_draw fun _ _ _ _ _ _ us hl => match us, hl with | [_, _], _ => rfl,
    fn__law_fount := FnT.mk' X G a__law_fount l__law_fount c__law_fount k__law_fount fun _ _ _ _ _ _ us hl => match us, hl with | [_, _, _], _ => rfl,
    fn__law_nicks := FnT.mk' X G a__law_nicks l__law_nicks c__law_nicks k__law_nicks fun _ _ _ _ _ _ us hl => match us, hl with | [_], _ => rfl,
    fn__law_pairs := FnT.mk' X G a__law_pairs l__law_pairs c__law_pairs k__law_pairs fun _ _ _ _ _ _ us hl => match us, hl with | [_, _], _ => rfl,
    fn__law_wrong := FnT.mk' X G a__law_wrong l__law_wrong c__law_wrong k__law_wrong fun _ _ _ _ _ _ us hl => match us, hl with | [_, _], _ => rfl,
    fn__law_same_one := FnT.mk' X G a__law_same_one l__law_same_one c__law_same_one k__law_same_one fun _ _ _ _ _ _ us hl => match us, hl with | [_, _], _ => rfl,
    fn__law_same := FnT.mk' X G a__law_same l__law_same c__law_same k__law_same fun _ _ _ _ _ _ us hl => match us, hl with | [_, _], _ => rfl,
    fn_is_tuple_of := FnT.mk' X G a_is_tuple_of l_is_tuple_of c_is_tuple_of k_is_tuple_of fun _ _ _ _ _ _ us hl => match us, hl with | [_, _, _], _ => rfl,
    fn_is_name := FnT.mk' X G a_is_name l_is_name c_is_name k_is_name fun _ _ _ _ _ _ us hl => match us, hl with | [_], _ => rfl,
    fn_is_names := FnT.mk' X G a_is_names l_is_names c_is_names k_is_names fun _ _ _ _ _ _ us hl => match us, hl with | [_, _, _], _ => rfl,
    fn_is_whole := FnT.mk' X G a_is_whole l_is_whole c_is_whole k_is_whole fun _ _ _ _ _ _ us hl => match us, hl with | [_], _ => rfl,
    fn_is_whole_in := FnT.mk' X G a_is_whole_in l_is_whole_in c_is_whole_in k_is_whole_in fun _ _ _ _ _ _ us hl => match us, hl with | [_, _, _], _ => rfl,
    fn_check_nicks := FnT.mk' X G a_check_nicks l_check_nicks c_check_nicks k_check_nicks fun _ _ _ _ _ _ us hl => match us, hl with | [_], _ => rfl,
    fn__law_is := FnT.mk' X G a__law_is l__law_is c__law_is k__law_is fun _ _ _ _ _ _ us hl => match us, hl with | [_, _], _ => rfl,
    fn_same_single := FnT.mk' X G a_same_single l_same_single c_same_single k_same_single fun _ _ _ _ _ _ us hl => match us, hl with | [_, _], _ => rfl,
    fn_same := FnT.mk' X G a_same l_same c_same k_same fun _ _ _ _ _ _ us hl => match us, hl with | [_, _], _ => rfl,
    fn_nick_row := FnT.mk' X G a_nick_row l_nick_row c_nick_row k_nick_row fun _ _ _ _ _ _ us hl => match us, hl with | [_, _, _], _ => rfl,
    fn_nick_rows := FnT.mk' X G a_nick_rows l_nick_rows c_nick_rows k_nick_rows fun _ _ _ _ _ _ us hl => match us, hl with | [_], _ => rfl,
    fn__law_pairs_refused := FnT.mk' X G a__law_pairs_refused l__law_pairs_refused c__law_pairs_refused k__law_pairs_refused fun _ _ _ _ _ _ us hl => match us, hl with | [_], _ => rfl,
    fn_is_nicking := FnT.mk' X G a_is_nicking l_is_nicking c_is_nicking k_is_nicking fun _ _ _ _ _ _ us hl => match us, hl with | [_, _], _ => rfl,
    fn_keeps := FnT.mk' X G a_keeps l_keeps c_keeps k_keeps fun _ _ _ _ _ _ us hl => match us, hl with | [_, _], _ => rfl,
    fn__law_keeps := FnT.mk' X G a__law_keeps l__law_keeps c__law_keeps k__law_keeps fun _ _ _ _ _ _ us hl => match us, hl with | [_, _, _], _ => rfl,
    fn_added := FnT.mk' X G a_added l_added c_added k_added fun _ _ _ _ _ _ us hl => match us, hl with | [_, _], _ => rfl,
    fn_without_leads := FnT.mk' X G a_without_leads l_without_leads c_without_leads k_without_leads fun _ _ _ _ _ _ us hl => match us, hl with | [_, _, _], _ => rfl,
    fn_last_name := FnT.mk' X G a_last_name l_last_name c_last_name k_last_name fun _ _ _ _ _ _ us hl => match us, hl with | [_, _], _ => rfl,
    fn_line_of := FnT.mk' X G a_line_of l_line_of c_line_of k_line_of fun _ _ _ _ _ _ us hl => match us, hl with | [_, _], _ => rfl,
    fn_solved := FnT.mk' X G a_solved l_solved c_solved k_solved fun _ _ _ _ _ _ us hl => match us, hl with | [_], _ => rfl,
    fn_settle_nicks := FnT.mk' X G a_settle_nicks l_settle_nicks c_settle_nicks k_settle_nicks fun _ _ _ _ _ _ us hl => match us, hl with | [_], _ => rfl,
    fn_is_rising := FnT.mk' X G a_is_rising l_is_rising c_is_rising k_is_rising fun _ _ _ _ _ _ us hl => match us, hl with | [_], _ => rfl,
    fn_is_clash := FnT.mk' X G a_is_clash l_is_clash c_is_clash k_is_clash fun _ _ _ _ _ _ us hl => match us, hl with | [_, _], _ => rfl,
    fn_is_answer := FnT.mk' X G a_is_answer l_is_answer c_is_answer k_is_answer fun _ _ _ _ _ _ us hl => match us, hl with | [_], _ => rfl,
    fn_upholds_nicks := FnT.mk' X G a_upholds_nicks l_upholds_nicks c_upholds_nicks k_upholds_nicks fun _ _ _ _ _ _ us hl => match us, hl with | [_, _], _ => rfl,
    fn_check_among := FnT.mk' X G a_check_among l_check_among c_check_among k_check_among fun _ _ _ _ _ _ us hl => match us, hl with | [_, _], _ => rfl,
    fn_in_free_names := FnT.mk' X G a_in_free_names l_in_free_names c_in_free_names k_in_free_names fun _ _ _ _ _ _ us hl => match us, hl with | [_, _, _], _ => rfl,
    fn_told_apart := FnT.mk' X G a_told_apart l_told_apart c_told_apart k_told_apart fun _ _ _ _ _ _ us hl => match us, hl with | [_, _, _], _ => rfl,
    fn_freedom := FnT.mk' X G a_freedom l_freedom c_freedom k_freedom fun _ _ _ _ _ _ us hl => match us, hl with | [_], _ => rfl,
    fn__law_refuses := FnT.mk' X G a__law_refuses l__law_refuses c__law_refuses k__law_refuses fun _ _ _ _ _ _ us hl => match us, hl with | [_, _], _ => rfl,
    fn_law := FnT.mk' X G a_law l_law c_law k_law fun _ _ _ _ _ _ us hl => match us, hl with | [_], _ => rfl }
  exact ⟨_, fun s v => .of_eq rfl, fun base _ _ => fnL (fnok_law T (fun_mk l_law c_law k_law)) hF⟩
end K80

/-! the size of a plain value -/
namespace Std
open PL PySem
mutual
def psz : D → Option Nat
  | .int _ => some 1
  | .str _ => some 1
  | .bl _ => some 1
  | .non => some 1
  | .tup ds => (pszL ds).map (· + 1)
  | _ => none
def pszL : List D → Option Nat
  | [] => some 0
  | d :: ds => (psz d).bind fun a => (pszL ds).map (a + ·)
end
theorem pszL_app : ∀ (xs ys : List D) (n : Nat), pszL (xs ++ ys) = some n → ∃ a b, pszL xs = some a ∧ pszL ys = some b ∧ n = a + b
  | [], ys, n, h => ⟨0, n, rfl, h, by omega⟩
  | x :: xs, ys, n, h => by
    rw [List.cons_append] at h
    unfold pszL at h
    cases h1 : psz x with
    | none => rw [h1] at h; cases h
    | some c =>
      rw [h1] at h
      cases h2 : pszL (xs ++ ys) with
      | none => rw [h2] at h; cases h
      | some m =>
        rw [h2] at h
        cases h
        obtain ⟨a, b, h3, h4, e⟩ := pszL_app xs ys m h2
        refine ⟨c + a, b, ?_, h4, by show c + m = _; omega⟩
        unfold pszL
        rw [h1, h3]; rfl
theorem pszL_mk : ∀ (xs ys : List D) (a b : Nat), pszL xs = some a → pszL ys = some b → pszL (xs ++ ys) = some (a + b)
  | [], ys, a, b, h, h2 => by cases h; rw [List.nil_append, Nat.zero_add]; exact h2
  | x :: xs, ys, a, b, h, h2 => by
    unfold pszL at h
    cases h1 : psz x with
    | none => rw [h1] at h; cases h
    | some c =>
      rw [h1] at h
      cases h3 : pszL xs with
      | none => rw [h3] at h; cases h
      | some m =>
        rw [h3] at h
        cases h
        rw [List.cons_append]
        unfold pszL
        rw [h1, pszL_mk xs ys m b h3 h2]
        show some (c + (m + b)) = some (c + m + b)
        congr 1; omega
theorem psz_pos {d : D} {n : Nat} (h : psz d = some n) : 1 ≤ n := by
  cases d with
  | int i => cases h; omega
  | str i => cases h; omega
  | bl i => cases h; omega
  | non => cases h; omega
  | tup ds =>
    unfold psz at h
    cases h1 : pszL ds with
    | none => rw [h1] at h; cases h
    | some m => rw [h1] at h; cases h; show 1 ≤ m + 1; omega
  | _ => cases h
theorem pszL_len : ∀ {ds : List D} {n : Nat}, pszL ds = some n → ds.length ≤ n
  | [], n, h => by simp
  | d :: ds, n, h => by
    unfold pszL at h
    cases h1 : psz d with
    | none => rw [h1] at h; cases h
    | some c =>
      rw [h1] at h
      cases h2 : pszL ds with
      | none => rw [h2] at h; cases h
      | some m =>
        rw [h2] at h
        cases h
        have := pszL_len h2
        have := psz_pos h1
        rw [List.length_cons]
        show _ ≤ c + m
        omega
theorem pszL_one {d : D} {n : Nat} (h : pszL [d] = some n) : psz d = some n := by
  unfold pszL at h
  cases h1 : psz d with
  | none => rw [h1] at h; cases h
  | some c => rw [h1] at h; cases h; rfl

@[simp] theorem psz_int (i : Int) : psz (.int i) = some 1 := (rfl)
@[simp] theorem psz_str (i : Str) : psz (.str i) = some 1 := (rfl)
@[simp] theorem psz_bl (i : Bool) : psz (.bl i) = some 1 := (rfl)
@[simp] theorem psz_non : psz .non = some 1 := (rfl)
@[simp] theorem psz_tup (ds : List D) : psz (.tup ds) = (pszL ds).map (· + 1) := by rw [psz]
@[simp] theorem pszL_nil : pszL [] = some 0 := (rfl)
@[simp] theorem pszL_cons (d : D) (ds : List D) : pszL (d :: ds) = (psz d).bind fun a => (pszL ds).map (a + ·) := by rw [pszL]
/-- a list of things of at most c each -/
theorem pszL_le {c : Nat} : ∀ {ds : List D}, (∀ d ∈ ds, ∃ n, psz d = some n ∧ n ≤ c) → ∃ n, pszL ds = some n ∧ n ≤ c * ds.length
  | [], _ => ⟨0, rfl, Nat.zero_le _⟩
  | d :: ds, h => by
    obtain ⟨a, h1, h2⟩ := h d (List.mem_cons_self ..)
    obtain ⟨b, h3, h4⟩ := pszL_le (c := c) (ds := ds) fun e he => h e (List.mem_cons_of_mem _ he)
    refine ⟨a + b, by rw [pszL_cons, h1, h3]; rfl, ?_⟩
    rw [List.length_cons, Nat.mul_add]
    omega
end Std

/-! dicts of names met, sorting of the same things in another order -/
namespace Std
open PL PySem
theorem srtS_congr {a b : List Str} (p : a.Perm b) : srtS a = srtS b :=
  List.Perm.eq_of_pairwise (fun a b _ _ h1 h2 => leT_anti h1 h2) (srtS_le a) (srtS_le b) ((srtS_perm a).trans (p.trans (srtS_perm b).symm))
theorem srtS_len (a : List Str) : (srtS a).length = a.length := (srtS_perm a).length_eq
theorem srtI_len (a : List Int) : (srtI a).length = a.length := (srtI_perm a).length_eq
def seenD (zs : List Str) : List (D × D) := zs.map fun z => (.str z, .bl true)
theorem gGet_seen (z : Str) : ∀ zs : List Str, gGet false (seenD zs) [.inr z] = if z ∈ zs then some (.bl true) else none
  | [] => rfl
  | y :: zs => by
    show gGet false ((.str y, .bl true) :: seenD zs) _ = _
    by_cases h : y = z
    · subst h
      rw [gGet_pos rfl, if_pos (List.mem_cons_self ..)]
    · rw [gGet_neg (by show ¬ some [Sum.inr y] = _; simpa using h), gGet_seen z zs]
      by_cases hz : z ∈ zs
      · rw [if_pos hz, if_pos (List.mem_cons_of_mem _ hz)]
      · rw [if_neg hz, if_neg]
        intro q
        rcases List.mem_cons.mp q with e | q
        · exact h e.symm
        · exact hz q
theorem gPut_seen {z : Str} {zs : List Str} (h : z ∉ zs) : gPut false (seenD zs) [.inr z] (.str z) (.bl true) = seenD (zs ++ [z]) := by
  unfold gPut
  rw [gGet_seen, if_neg h]
  simp [seenD]
theorem seenD_len (zs : List Str) : (seenD zs).length = zs.length := by simp [seenD]
/-- a list reversed by [::-1] -/
theorem map_rev {α : Type} (f : α → D) (xs : List α) : (xs.map f).reverse = xs.reverse.map f := by rw [List.map_reverse]
theorem filter_rev_perm {α : Type} (p : α → Bool) (xs : List α) : (xs.reverse.filter p).Perm (xs.filter p) := (List.reverse_perm xs).filter p
theorem cutG_mid {α : Type} {xs : List α} {lo hi : Int} (h0 : 0 ≤ lo) (h1 : lo ≤ hi) : PL.cutG xs (some lo) (some hi) = (xs.drop lo.toNat).take (hi - lo).toNat := by
  unfold PL.cutG
  simp only [HT.sIx]
  rw [if_neg (by omega), if_neg (by omega)]
  by_cases h : lo.toNat ≤ xs.length
  · rw [show min lo.toNat xs.length = lo.toNat by omega, List.take_eq_take_iff, List.length_drop]
    omega
  · rw [List.drop_eq_nil_of_le (show xs.length ≤ min lo.toNat xs.length by omega), List.drop_eq_nil_of_le (show xs.length ≤ lo.toNat by omega)]
    simp
theorem choose_lt {α : Type} [Nonempty α] {n : Nat} {P : Nat → α → Prop} (h : ∀ k, k < n → ∃ x, P k x) : ∃ f : Nat → α, ∀ k, k < n → P k (f k) := by
  classical
  exact ⟨fun k => if hk : k < n then Classical.choose (h k hk) else Classical.choice inferInstance, fun k hk => by
    show P k (if hk : k < n then Classical.choose (h k hk) else Classical.choice inferInstance)
    rw [dif_pos hk]
    exact Classical.choose_spec (h k hk)⟩
end Std

/-! equality of plain values, membership -/
namespace Std
open PL PySem
def clay (d : D) : Bool := PyData.canLay0 (toPy d)
def clayL (ds : List D) : Bool := PyData.canLayAll0 (toPyL ds)
def dpt (d : D) : Nat := PyData.depth (toPy d)
def dptL (ds : List D) : Nat := PyData.depthAll (toPyL ds)
def eqDL (a b : List D) : Bool := PyData.eqvAll (toPyL a) (toPyL b)
def sOk (z : Str) : Bool := z.cps.all (· < 0x110000)
@[simp] theorem clay_non : clay .non = true := (rfl)
@[simp] theorem clay_bl (b : Bool) : clay (.bl b) = true := (rfl)
@[simp] theorem clay_int (i : Int) : clay (.int i) = true := (rfl)
@[simp] theorem clay_str (z : Str) : clay (.str z) = sOk z := (rfl)
@[simp] theorem clay_tup (ds : List D) : clay (.tup ds) = clayL ds := by unfold clay clayL; simp [toPy, PyData.canLay0]
@[simp] theorem clay_lst (ds : List D) : clay (.lst ds) = clayL ds := by unfold clay clayL; simp [toPy, PyData.canLay0]
@[simp] theorem clayL_nil : clayL [] = true := (rfl)
@[simp] theorem clayL_cons (d : D) (ds : List D) : clayL (d :: ds) = (clay d && clayL ds) := by unfold clay clayL; simp [toPyL, PyData.canLayAll0]
@[simp] theorem dpt_non : dpt .non = 0 := (rfl)
@[simp] theorem dpt_bl (b : Bool) : dpt (.bl b) = 0 := (rfl)
@[simp] theorem dpt_int (i : Int) : dpt (.int i) = 0 := (rfl)
@[simp] theorem dpt_str (z : Str) : dpt (.str z) = 0 := (rfl)
@[simp] theorem dpt_tup (ds : List D) : dpt (.tup ds) = dptL ds + 1 := by unfold dpt dptL; simp [toPy, PyData.depth]
@[simp] theorem dpt_lst (ds : List D) : dpt (.lst ds) = dptL ds + 1 := by unfold dpt dptL; simp [toPy, PyData.depth]
@[simp] theorem dptL_nil : dptL [] = 0 := (rfl)
@[simp] theorem dptL_cons (d : D) (ds : List D) : dptL (d :: ds) = max (dpt d) (dptL ds) := by unfold dpt dptL; simp [toPyL, PyData.depthAll]
theorem shp_is (d : D) : shp d = (clay d && decide (dpt d ≤ 64)) := rfl
theorem clayL_all {ds : List D} : clayL ds = ds.all clay := by
  induction ds with
  | nil => rfl
  | cons d ds ih => rw [clayL_cons, ih]; rfl
theorem dptL_le {c : Nat} {ds : List D} (h : ∀ d ∈ ds, dpt d ≤ c) : dptL ds ≤ c := by
  induction ds with
  | nil => simp
  | cons d ds ih =>
    rw [dptL_cons]
    have h1 := h d (List.mem_cons_self ..)
    have h2 := ih fun e he => h e (List.mem_cons_of_mem _ he)
    omega
@[simp] theorem eq_tt (a b : List D) : eqD (.tup a) (.tup b) = eqDL a b := by unfold eqD eqDL; simp [toPy, PyData.eqv]
@[simp] theorem eq_ll (a b : List D) : eqD (.lst a) (.lst b) = eqDL a b := by unfold eqD eqDL; simp [toPy, PyData.eqv]
@[simp] theorem eq_nil : eqDL [] [] = true := (rfl)
@[simp] theorem eq_cons (x y : D) (xs ys : List D) : eqDL (x :: xs) (y :: ys) = (eqD x y && eqDL xs ys) := by unfold eqD eqDL; simp [toPyL, PyData.eqvAll]
@[simp] theorem eq_nc (y : D) (ys : List D) : eqDL [] (y :: ys) = false := by unfold eqDL; simp [toPyL, PyData.eqvAll]
@[simp] theorem eq_cn (y : D) (ys : List D) : eqDL (y :: ys) [] = false := by unfold eqDL; simp [toPyL, PyData.eqvAll]
theorem eq_ii (i j : Int) : eqD (.int i) (.int j) = decide (i = j) := x_eq_int i j
theorem eq_ss (i j : Str) : eqD (.str i) (.str j) = decide (i = j) := x_eq_str i j
theorem eq_is (i : Int) (j : Str) : eqD (.int i) (.str j) = false := rfl
theorem eq_si (i : Str) (j : Int) : eqD (.str i) (.int j) = false := rfl
theorem eq_bi (i : Bool) (j : Int) : eqD (.bl i) (.int j) = decide ((if i then 1 else 0) = j) := by
  show ((if i = true then (1 : Int) else 0) == j) = _
  cases i <;> simp <;> rfl
theorem eq_ib (j : Int) (i : Bool) : eqD (.int j) (.bl i) = decide (j = (if i then 1 else 0)) := by
  show (j == (if i = true then (1 : Int) else 0)) = _
  cases i <;> simp <;> rfl
theorem eq_bb (i j : Bool) : eqD (.bl i) (.bl j) = decide (i = j) := x_eq_bl i j
/-- == of two lists, or two tuples -/
theorem dEq_ll {a b : List D} (ha : clayL a = true) (hb : clayL b = true) (da : dptL a ≤ 63) (db : dptL b ≤ 63) : dEq (.lst a) (.lst b) = some (eqDL a b) := by
  unfold dEq
  rw [if_neg (by simp [flatX]), if_pos ⟨by rw [shp_is]; simp [ha]; omega, by rw [shp_is]; simp [hb]; omega⟩, eq_ll]
theorem dEq_tt {a b : List D} (ha : clayL a = true) (hb : clayL b = true) (da : dptL a ≤ 63) (db : dptL b ≤ 63) : dEq (.tup a) (.tup b) = some (eqDL a b) := by
  unfold dEq
  rw [if_neg (by simp [flatX]), if_pos ⟨by rw [shp_is]; simp [ha]; omega, by rw [shp_is]; simp [hb]; omega⟩, eq_tt]
theorem inL_is {d : D} {es : List D} (hd : clay d = true) (dd : dpt d ≤ 64) (he : clayL es = true) : inL d es = some (es.any fun e => eqD e d) := by
  unfold inL
  rw [if_pos ⟨by rw [shp_is]; simp [hd, dd], he⟩]
theorem in_lst {d : D} {es : List D} (hd : clay d = true) (dd : dpt d ≤ 64) (he : clayL es = true) : dIn d (.lst es) = some (es.any fun e => eqD e d) := by
  cases d <;> exact inL_is hd dd he
theorem in_tup {d : D} {es : List D} (hd : clay d = true) (dd : dpt d ≤ 64) (he : clayL es = true) : dIn d (.tup es) = some (es.any fun e => eqD e d) := by
  cases d <;> exact inL_is hd dd he
/-! names -/
theorem clay_strs {zs : List Str} (h : ∀ z ∈ zs, sOk z = true) : clayL (zs.map .str) = true := by
  rw [clayL_all, List.all_map, List.all_eq_true]
  exact fun z hz => h z hz
theorem clay_ints (is : List Int) : clayL (is.map .int) = true := by
  rw [clayL_all, List.all_map, List.all_eq_true]
  exact fun z hz => rfl
theorem any_strs (z : Str) (zs : List Str) : ((zs.map D.str).any fun e => eqD e (.str z)) = decide (z ∈ zs) := by
  rw [List.any_map]
  induction zs with
  | nil => simp
  | cons y ys ih =>
    rw [List.any_cons, ih]
    simp only [Function.comp, eq_ss, List.mem_cons]
    by_cases h : z = y
    · simp [h]
    · have : ¬ y = z := fun e => h e.symm
      simp [h, this]
theorem any_ints (z : Int) (zs : List Int) : ((zs.map D.int).any fun e => eqD e (.int z)) = decide (z ∈ zs) := by
  rw [List.any_map]
  induction zs with
  | nil => simp
  | cons y ys ih =>
    rw [List.any_cons, ih]
    simp only [Function.comp, eq_ii, List.mem_cons]
    by_cases h : z = y
    · simp [h]
    · have : ¬ y = z := fun e => h e.symm
      simp [h, this]
theorem in_strsL {z : Str} {zs : List Str} (h : sOk z = true) (hs : ∀ z ∈ zs, sOk z = true) : dIn (.str z) (.lst (zs.map .str)) = some (decide (z ∈ zs)) := by
  rw [in_lst (d := .str z) (show clay (.str z) = true from h) (by simp) (clay_strs hs), any_strs]
theorem in_strsT {z : Str} {zs : List Str} (h : sOk z = true) (hs : ∀ z ∈ zs, sOk z = true) : dIn (.str z) (.tup (zs.map .str)) = some (decide (z ∈ zs)) := by
  rw [in_tup (d := .str z) (show clay (.str z) = true from h) (by simp) (clay_strs hs), any_strs]
theorem in_intsL (i : Int) (is : List Int) : dIn (.int i) (.lst (is.map .int)) = some (decide (i ∈ is)) := by
  rw [in_lst rfl (by simp) (clay_ints is), any_ints]
theorem in_intsT (i : Int) (is : List Int) : dIn (.int i) (.tup (is.map .int)) = some (decide (i ∈ is)) := by
  rw [in_tup rfl (by simp) (clay_ints is), any_ints]
theorem Nam.ok {z : Str} (h : Nam z) : sOk z = true := by
  obtain ⟨c, cs, rfl, h1, h2, h3⟩ := h
  unfold sOk
  rw [List.all_toArray, List.all_eq_true]
  intro d hd
  have hl : ∀ e, letC e = true → e < 0x110000 := fun e he => by
    have : 97 ≤ e ∧ e ≤ 122 := by simpa [letC] using he
    omega
  have hg : ∀ e, digC e = true → e < 0x110000 := fun e he => by
    have : 48 ≤ e ∧ e ≤ 57 := by simpa [digC] using he
    omega
  have : d < 0x110000 := by
    rcases List.mem_cons.mp hd with rfl | hd
    · exact hl _ h1
    · rcases h3 d hd with q | q
      · exact hl _ q
      · exact hg _ q
  simpa using this
end Std

/-! the helpers of one family of laws: jars and draws, sameness -/
namespace FC
open PL PySem Std
def b__law_jar : Sx := sSeq (sSet [] 2 (eC (.int 0))) (sSeq (sSet [] 3 (eC (.int 0))) (sSeq (sIf (t2 dGt (eB dLen1 (aCons (eVar 0) (aNil))) (eC (.int 0))) (sSet [] 3 (eB dAbs (aCons (eB dInt1 (aCons (e2 dIx (eVar 0) (eC (.int 0))) (aNil))) (aNil)))) (sNil)) (sSeq (sIf (t2 dLt (eVar 1) (eB dLen1 (aCons (eVar 0) (aNil)))) (sSet [] 2 (eB dAbs (aCons (eB dInt1 (aCons (e2 dIx (eVar 0) (eVar 1)) (aNil))) (aNil)))) (sNil)) (sSeq (sSet [] 4 (e2 dAdd (e2 dAdd (e2 dAdd (e2 dMod (eB dInt1 (aCons (eVar 2) (aNil))) (eC (.int 2147483647))) (e2 dMul (eC (.int 31)) (e2 dMod (eB dInt1 (aCons (eVar 3) (aNil))) (eC (.int 2147483647))))) (e2 dMul (eC (.int 7919)) (eVar 1))) (eC (.int 1)))) (sRet [] (eLst [] (aCons (eVar 2) (aCons (eVar 4) (aCons (eC (.int 0)) (aCons (eB dInt1 (aCons (bE (t2 dGe (eVar 2) (e2 dPow (eC (.int 10)) (eC (.int 18))))) (aNil))) (aNil)))))))))))
def m__law_jar : Fn := runF 3 b__law_jar
def b__law_draw : Sx := sSeq (sIf (tAnd (t2 dEq (e2 dIx (eVar 0) (eC (.int 3))) (eC (.int 1))) (t2 dGt (e2 dIx (eVar 0) (eC (.int 0))) (eC (.int 0)))) (sSeq (sSet [0] 3 (e2 dMod (eB dInt1 (aCons (e2 dIx (eVar 0) (eC (.int 0))) (aNil))) (eVar 1))) (sSeq (sAsg [0] (e2 dDiv (e2 dIx (eVar 0) (eC (.int 0))) (eVar 1)) (gSb 0 (eC (.int 0)))) (sRet [0] (eVar 3)))) (sNil)) (sSeq (sAsg [0] (e2 dAdd (e2 dIx (eVar 0) (eC (.int 2))) (eC (.int 1))) (gSb 0 (eC (.int 2)))) (sSeq (sSet [0] 2 (e2 dMod (eB dInt1 (aCons (e2 dAdd (e2 dIx (eVar 0) (eC (.int 1))) (e2 dMul (eC (.int 40503)) (e2 dIx (eVar 0) (eC (.int 2))))) (aNil))) (eC (.int 2147483647)))) (sSeq (sSet [0] 2 (e2 dMod (eB dInt1 (aCons (e2 dAdd (e2 dMul (eVar 2) (eVar 2)) (e2 dMul (eC (.int 48271)) (e2 dIx (eVar 0) (eC (.int 2))))) (aNil))) (eC (.int 2147483629)))) (sSeq (sSet [0] 2 (e2 dMod (eB dInt1 (aCons (e2 dAdd (e2 dDiv (e2 dMul (eVar 2) (eVar 2)) (eC (.int 1024))) (eVar 2)) (aNil))) (eC (.int 2147483629)))) (sRet [0] (e2 dMod (eB dInt1 (aCons (e2 dDiv (eVar 2) (eC (.int 64))) (aNil))) (eVar 1)))))))
def m__law_draw : Fn1 := run1 0 2 b__law_draw
def b__law_same_one : Sx := sSeq (sIf (tOr (t2 dIs (eVar 0) (eC .non)) (t2 dIs (eVar 1) (eC .non))) (sRet [] (eAnd (bE (t2 dIs (eVar 0) (eC .non))) (bE (t2 dIs (eVar 1) (eC .non))))) (sNil)) (sSeq (sIf (tOr (tIsi (isT .bool) (eVar 0)) (tIsi (isT .bool) (eVar 1))) (sRet [] (eAnd (bE (tIsi (isT .bool) (eVar 0))) (eAnd (bE (tIsi (isT .bool) (eVar 1))) (bE (t2 dEq (eVar 0) (eVar 1)))))) (sNil)) (sSeq (sIf (tAnd (tIsi (isT .int) (eVar 0)) (tIsi (isT .int) (eVar 1))) (sRet [] (bE (t2 dEq (eVar 0) (eVar 1)))) (sNil)) (sRet [] (eAnd (bE (tIsi (isT .str) (eVar 0))) (eAnd (bE (tIsi (isT .str) (eVar 1))) (bE (t2 dEq (eVar 0) (eVar 1))))))))
def m__law_same_one : Fn := runF 0 b__law_same_one
def b__law_same_c1 : Ex := eLst [] (aCons (e2 dIx (eVar 5) (eVar 7)) (aCons (e2 dIx (eVar 6) (eVar 7)) (aNil)))
def b__law_same_f2 : Sx := sSeq (sIf (t2 dEq (eB dLen1 (aCons (eVar 2) (aNil))) (eC (.int 0))) (sRet [] (eC (.bl true))) (sNil)) (sSeq (sSet [] 4 (eMl [] 2 mPop aNil)) (sSeq (sSet [] 5 (e2 dIx (eVar 4) (eC (.int 0)))) (sSeq (sSet [] 6 (e2 dIx (eVar 4) (eC (.int 1)))) (sIf (tAnd (tIsi (isT .tuple) (eVar 5)) (tIsi (isT .tuple) (eVar 6))) (sSeq (sIf (t2 dNe (eB dLen1 (aCons (eVar 5) (aNil))) (eB dLen1 (aCons (eVar 6) (aNil)))) (sRet [] (eC (.bl false))) (sNil)) (sEx (eMl [] 2 mExtend (aCons (eLc [] [7] (iRg1 (aCons (eB dLen1 (aCons (eVar 5) (aNil))) (aNil))) (gNm [] 7) (tsNo) b__law_same_c1) (aNil))))) (sIf (tOr (tIsi (isT .tuple) (eVar 5)) (tOr (tIsi (isT .tuple) (eVar 6)) (tNot (tTru (eCall [] 2 m__law_same_one (aCons (eVar 5) (aCons (eVar 6) (aNil)))))))) (sRet [] (eC (.bl false))) (sNil))))))
def b__law_same : Sx := sSeq (sSet [] 2 (eLst [] (aCons (eLst [] (aCons (eVar 0) (aCons (eVar 1) (aNil)))) (aNil)))) (sSeq (sFor (iRg1 (aCons (eC (.int 20000)) (aNil))) (gNm [] 3) b__law_same_f2) (sRet [] (eC (.bl false))))
def m__law_same : Fn := runF 6 b__law_same
theorem lg {b : Int} (h : b.natAbs < 18446744073709551616) : b.natAbs.log2 < 9000 := by
  rcases Nat.eq_zero_or_pos b.natAbs with z | z
  · rw [z]; decide
  · exact Nat.lt_of_lt_of_le ((Nat.log2_lt (k := 64) (by omega)).mpr h) (by decide)
def Jar (d : D) : Prop := ∃ a b c f : Int, d = .lst [.int a, .int b, .int c, .int f]
theorem s_jar (ns : List Int) (k : Int) (h0 : 0 ≤ k) (hk : k ≤ 1000) : ∃ j, Jar j ∧ m__law_jar [.scr ns, .int k] = .ok (.o j) := by
  have e18 : dPow (.int 10) (.int 18) = some (.v (.int 1000000000000000000)) := by simp [dPow]
  have m1 : ∀ y : Int, dMul (.int 31) (.int y) = some (.v (.int (31 * y))) := fun y => x_mulL (by decide)
  have m2 : ∀ y : Int, dMul (.int 7919) (.int y) = some (.v (.int (7919 * y))) := fun y => x_mulL (by decide)
  by_cases hn : 0 < ns.length
  · obtain ⟨x, g, _⟩ := atI_ex (xs := ns) (i := 0) (by omega) (by omega)
    by_cases hkl : k < ns.length
    · obtain ⟨y, g2, _⟩ := atI_ex (xs := ns) (i := k) h0 hkl
      exact ⟨_, ⟨_, _, _, _, rfl⟩, by simp [-x_mul, m__law_jar, b__law_jar, hn, hkl, g, g2, e18, m1, m2]; exact ⟨rfl, rfl, rfl, rfl⟩⟩
    · exact ⟨_, ⟨_, _, _, _, rfl⟩, by simp [-x_mul, m__law_jar, b__law_jar, hn, hkl, g, e18, m1, m2]; exact ⟨rfl, rfl, rfl, rfl⟩⟩
  · have e : ns = [] := List.length_eq_zero_iff.mp (by omega)
    subst e
    have hkl : ¬ k < 0 := by omega
    exact ⟨_, ⟨_, _, _, _, rfl⟩, by simp [-x_mul, m__law_jar, b__law_jar, hkl, e18, m1, m2]; exact ⟨rfl, rfl, rfl, rfl⟩⟩
theorem s_draw {j : D} (h : Jar j) (size : Int) (h0 : 0 < size) (h1 : size < 1000000000000000) : ∃ (d : Int) (j' : D), Jar j' ∧ 0 ≤ d ∧ d < size ∧ m__law_draw [j, .int size] = .ok (.v (.int d), j') := by
  obtain ⟨a, b, c, f, rfl⟩ := h
  have hlg := lg (b := size) (by omega)
  have lt := fun x : Int => Int.emod_lt_of_pos x h0
  have nn := fun x : Int => Int.emod_nonneg x (show size ≠ 0 by omega)
  by_cases p : f = 1 ∧ 0 < a
  · obtain ⟨rfl, p⟩ := p
    exact ⟨a % size, _, ⟨_, _, _, _, rfl⟩, nn _, lt _, by simp [-x_mul, m__law_draw, b__law_draw, p, h0, hlg, ixN_i]; exact ⟨rfl, rfl, rfl, rfl⟩⟩
  · have m1 : ∀ y : Int, dMul (.int 40503) (.int y) = some (.v (.int (40503 * y))) := fun y => x_mulL (by decide)
    have m2 : ∀ y : Int, dMul (.int 48271) (.int y) = some (.v (.int (48271 * y))) := fun y => x_mulL (by decide)
    have key : ∀ v2 v3 : Option S, ∃ (d : Int) (ρ' : Rho), 0 ≤ d ∧ d < size ∧ (b__law_draw [some (.o (.lst [.int a, .int b, .int c, .int f])), some (.v (.int size)), none, none] >>= end1 0) = .ok (.v (.int d), .lst [.int a, .int b, .int (c + 1), .int f]) := fun v2 v3 => by
      generalize hT : (b + 40503 * (c + 1)) % 2147483647 = t
      have t1 : t.natAbs < 18446744073709551616 := by omega
      generalize hU : (t * t + 48271 * (c + 1)) % 2147483629 = u
      have u1 : u.natAbs < 18446744073709551616 := by omega
      have d11 : ∀ z : Int, dDiv (.int z) (.int 1024) = some (.v (.int (z / 1024))) := fun z => by rw [x_div, if_pos ⟨by decide, by decide⟩]
      have d12 : ∀ z : Int, dDiv (.int z) (.int 64) = some (.v (.int (z / 64))) := fun z => by rw [x_div, if_pos ⟨by decide, by decide⟩]
      have g2 : ∀ v : D, (L2.ixN 4 2).map (fun j => D.lst ([D.int a, D.int b, D.int c, D.int f].set j v)) = some (.lst [.int a, .int b, v, .int f]) := fun v => by rw [ixN_i (by decide) (by decide)]; rfl
      refine ⟨_, [], nn _, lt ((u * u / 1024 + u) % 2147483629 / 64), ?_⟩
      by_cases hf : f = 1
      · have ha : ¬ 0 < a := fun q => p ⟨hf, q⟩
        simp [-x_mul, -x_div, b__law_draw, hf, ha, m1, m2, hT, x_mulL t1, hU, x_mulL u1, d11, d12, h0, ixN_i]
      · simp [-x_mul, -x_div, b__law_draw, hf, m1, m2, hT, x_mulL t1, hU, x_mulL u1, d11, d12, h0, ixN_i]
    obtain ⟨d, ρ', d0, d1, e⟩ := key none none
    exact ⟨d, _, ⟨_, _, _, _, rfl⟩, d0, d1, e⟩
/-! _law_same of one and the same -/
def dd (d : D) : D := .lst [d, d]
theorem same_1 (d : D) (h : psz d = some 1) (ht : isT .tuple d = some false) : m__law_same_one [d, d] = .ok (.v (.bl true)) := by
  cases d <;> first | (cases h; done) | (cases ht; done) | skip
  · simp [m__law_same_one, b__law_same_one]
  · rename_i b; cases b <;> simp [m__law_same_one, b__law_same_one]
  · simp [m__law_same_one, b__law_same_one]
  · simp [m__law_same_one, b__law_same_one]
theorem pop_dd (W : List D) (d : D) : mPop (W.map dd ++ [.lst [d, d]]) [] = some (.lst [d, d], W.map dd) := x_pop _ _
theorem s_same (d : D) {n : Nat} (h : psz d = some n) (hn : n < 20000) : m__law_same [d, d] = .ok (.v (.bl true)) := by
  have x1 := x_int1' 20000 (by omega)
  simp only [m__law_same, b__law_same]
  generalize hN : (20000 : Int) = N at x1
  simp [x1]
  refine rg_eq (fun i ρ => ∃ W m v3 v4 v5 v6 v7, pszL W = some m ∧ m + i < 20000 ∧ ρ = [some (.v d), some (.v d), some (.o (.lst (W.map dd))), v3, v4, v5, v6, v7]) ⟨[d], n, none, none, none, none, none, by simp [h], by omega, rfl⟩ ?_ ?_
  · rintro i _ hi ⟨W, m, v3, v4, v5, v6, v7, hW, hm, rfl⟩
    rcases List.eq_nil_or_concat W with e | ⟨W', c, e⟩
    · subst e
      simp [b__law_same_f2]
    · rw [List.concat_eq_append] at e
      subst e
      obtain ⟨x, y, h1, h2, e2⟩ := pszL_app W' [c] m hW
      have h3 := pszL_one h2
      have hw := pszL_len h1
      have hc := psz_pos h3
      have h0 : ¬ ((W'.length : Int) + 1 = 0) := by omega
      have hp := pop_dd W' c
      cases c with
      | tup es =>
        rw [psz_tup] at h3
        cases h4 : pszL es with
        | none => rw [h4] at h3; cases h3
        | some z =>
          rw [h4] at h3
          have h5 : z + 1 = y := Option.some.inj h3
          have hes := pszL_len h4
          have x2 := x_int1' (es.length : Int) (by omega)
          simp [b__law_same_f2, h0, hp, dd, x2, x_eLc]
          refine lm_a (h := fun k : Nat => D.int (0 + (k : Int))) (List.range es.length) (fun k => (es[k]?.map dd).getD .non) rfl (by rw [List.length_range]; omega) (fun k hk => ?_) ?_
          · have hk' : k < es.length := by simpa using hk
            have g : L2.atI es (k : Int) = some es[k] := atI_ofNat _ _ _ (List.getElem?_eq_getElem hk')
            simp [b__law_same_c1, g, hk', dd]
          · have em : (List.range es.length).map (fun k => (es[k]?.map dd).getD .non) = es.map dd := by
              apply List.ext_getElem
              · simp
              · intro k hk1 hk2
                have : k < es.length := by simpa using hk2
                simp [this]
            have hx : W'.length + es.length ≤ 16777216 := by omega
            simp [em, hx]
            exact ⟨W' ++ es, x + z, pszL_mk W' es x z h1 h4, by omega, by simp⟩
      | int c =>
        have s1 := same_1 (.int c) rfl rfl
        simp [b__law_same_f2, h0, hp, dd, s1]
        exact ⟨W', x, h1, by omega, rfl⟩
      | str c =>
        have s1 := same_1 (.str c) rfl rfl
        simp [b__law_same_f2, h0, hp, dd, s1]
        exact ⟨W', x, h1, by omega, rfl⟩
      | bl c =>
        have s1 := same_1 (.bl c) rfl rfl
        simp [b__law_same_f2, h0, hp, dd, s1]
        exact ⟨W', x, h1, by omega, rfl⟩
      | non =>
        have s1 := same_1 .non rfl rfl
        simp [b__law_same_f2, h0, hp, dd, s1]
        exact ⟨W', x, h1, by omega, rfl⟩
      | _ => cases h3
  · rintro _ ⟨W, m, v3, v4, v5, v6, v7, hW, hm, rfl⟩
    omega
end FC

/-! is_names of the kinds -/
namespace Std
open PL PySem
def b_is_names_f1 : Sx := sSeq (sIf (tOr (tNot (tTru (eCall [] 1 m_is_name (aCons (eVar 4) (aNil))))) (t2 dIn (eVar 4) (eVar 3))) (sRet [] (eC (.bl false))) (sNil)) (sAsg [] (eC (.bl true)) (gSb 3 (eVar 4)))
def b_is_names : Sx := sSeq (sIf (tNot (tTru (eCall [] 3 m_is_tuple_of (aCons (eVar 0) (aCons (eVar 1) (aCons (eVar 2) (aNil))))))) (sRet [] (eC (.bl false))) (sNil)) (sSeq (sSet [] 3 (eDNew false)) (sSeq (sFor (iVal [] (eVar 0)) (gNm [] 4) b_is_names_f1) (sRet [] (eC (.bl true)))))
def m_is_names : Fn := runF 2 b_is_names
/-- items without dicts -/
def Sh (d : D) : Prop := noD d = true ∧ ∀ z, d = .str z → z.length ≤ 16777216
theorem nmD (d : D) (h : Sh d) : m_is_name [d] = .ok (.v (.bl (isNm d))) := by
  cases d <;> first | (cases h.1; done) | exact Std.s_is_nameS _ (h.2 _ rfl) | exact Std.s_is_name0 _ h.1 rfl
theorem nms_step (A B C : D) (p : Str) (hn : Nam p) (zs : List Str) (hz : p ∉ zs) (hl : zs.length < 100) : b_is_names_f1 [some (.v A), some (.v B), some (.v C), some (.o (.dic false (seenD zs))), some (.v (.str p))] = .ok (.next [some (.v A), some (.v B), some (.v C), some (.o (.dic false (seenD (zs ++ [p])))), some (.v (.str p))]) := by
  have hl' : zs.length < 16777216 := by omega
  simp [b_is_names_f1, hn.is, gGet_seen, hz, seenD_len, hl', gPut_seen]
theorem nms_lp (A B C : D) (rest : List D) : ∀ (ps : List Str) (zs : List Str) (v2 : Option S), (∀ p ∈ ps, Nam p) → (zs ++ ps).Nodup → zs.length + ps.length < 100 →
    ∃ v2', lp (gNm [] 4) b_is_names_f1 (ps.map .str ++ rest) [some (.v A), some (.v B), some (.v C), some (.o (.dic false (seenD zs))), v2] = lp (gNm [] 4) b_is_names_f1 rest [some (.v A), some (.v B), some (.v C), some (.o (.dic false (seenD (zs ++ ps)))), v2']
  | [], zs, v2, _, _, _ => ⟨v2, by simp⟩
  | p :: ps, zs, v2, hn, hd, hl => by
    rw [List.length_cons] at hl
    have hz : p ∉ zs := fun q => by
      have := List.nodup_append.mp hd
      exact this.2.2 _ q _ (by simp) rfl
    obtain ⟨v2', ih⟩ := nms_lp A B C rest ps (zs ++ [p]) (some (.v (.str p))) (fun q h => hn q (List.mem_cons_of_mem _ h)) (by simpa using hd) (by simp; omega)
    refine ⟨v2', ?_⟩
    rw [List.map_cons, List.cons_append, x_lp1]
    have e0 : gNm [] 4 (.str p) [some (.v A), some (.v B), some (.v C), some (.o (.dic false (seenD zs))), v2] = some [some (.v A), some (.v B), some (.v C), some (.o (.dic false (seenD zs))), some (.v (.str p))] := by simp
    rw [e0, liftO_some, bind_ok, nms_step A B C p (hn p (List.mem_cons_self ..)) zs hz (by omega), bind_ok, x_aft1, ih]
    simp
/-- names that are different -/
structure Nms (zs : List Str) : Prop where
  nam : ∀ z ∈ zs, Nam z
  nd : zs.Nodup
theorem s_is_names (zs : List Str) (h : Nms zs) (hi : Int) (h1 : (zs.length : Int) ≤ hi) (h2 : zs.length < 100) : m_is_names [.tup (zs.map .str), .int 0, .int hi] = .ok (.v (.bl true)) := by
  obtain ⟨v2, e⟩ := nms_lp (.tup (zs.map .str)) (.int 0) (.int hi) [] zs [] none h.nam (by simpa using h.nd) (by simpa using h2)
  have t := s_is_tuple_of (.tup (zs.map .str)) 0 hi rfl
  simp [seenD, h1] at e t
  simp [m_is_names, b_is_names, t, e]
theorem x_is_names0 (d : D) (hd : noD d = true) (hi : Int) (h : isTup 0 hi d = false) : m_is_names [d, .int 0, .int hi] = .ok (.v (.bl false)) := by
  have t := s_is_tuple_of d 0 hi hd
  rw [h] at t
  simp [m_is_names, b_is_names, t]
theorem x_is_names (zs : List Str) (h : Nms zs) (h2 : zs.length < 100) (d : D) (hd : Sh d) (hb : isNm d = false ∨ ∃ z ∈ zs, d = .str z) (rest : List D) (hi : Int) : m_is_names [.tup (zs.map .str ++ d :: rest), .int 0, .int hi] = .ok (.v (.bl false)) := by
  by_cases hl : isTup 0 hi (.tup (zs.map .str ++ d :: rest)) = true
  · have t := s_is_tuple_of (.tup (zs.map .str ++ d :: rest)) 0 hi rfl
    rw [hl] at t
    obtain ⟨v2, e⟩ := nms_lp (.tup (zs.map .str ++ d :: rest)) (.int 0) (.int hi) (d :: rest) zs [] none h.nam (by simpa using h.nd) (by simpa using h2)
    have e2 : ∃ ρ', b_is_names_f1 [some (.v (.tup (zs.map .str ++ d :: rest))), some (.v (.int 0)), some (.v (.int hi)), some (.o (.dic false (seenD zs))), some (.v d)] = .ok (.ret (.v (.bl false)) ρ') := by
      rcases hb with hb | ⟨z, hz, rfl⟩
      · exact ⟨_, by simp [b_is_names_f1, nmD d hd, hb]; rfl⟩
      · exact ⟨_, by simp [b_is_names_f1, (h.nam z hz).is, gGet_seen, hz]; rfl⟩
    obtain ⟨ρ', e2⟩ := e2
    have e3 : lp (gNm [] 4) b_is_names_f1 (d :: rest) [some (.v (.tup (zs.map .str ++ d :: rest))), some (.v (.int 0)), some (.v (.int hi)), some (.o (.dic false (seenD zs))), v2] = .ok (.ret (.v (.bl false)) ρ') := by
      rw [x_lp1]
      simp [e2]
    have e : lp (gNm [] 4) b_is_names_f1 (zs.map .str ++ d :: rest) [some (.v (.tup (zs.map .str ++ d :: rest))), some (.v (.int 0)), some (.v (.int hi)), some (.o (.dic false [])), none] = .ok (.ret (.v (.bl false)) ρ') := by
      rw [show ([] : List (D × D)) = seenD [] from rfl, e, List.nil_append, e3]
    simp [m_is_names, b_is_names, t, e]
  · exact x_is_names0 _ rfl hi (by simpa using hl)
end Std

namespace K80
open PL PySem Std
open FC (Jar)
theorem s_jar (ns : List Int) (k : Int) (h0 : 0 ≤ k) (hk : k ≤ 1000) : ∃ j, Jar j ∧ m__law_jar [.scr ns, .int k] = .ok (.o j) := FC.s_jar ns k h0 hk
theorem s_draw {j : D} (h : Jar j) (size : Int) (h0 : 0 < size) (h1 : size < 1000000000000000) : ∃ (d : Int) (j' : D), Jar j' ∧ 0 ≤ d ∧ d < size ∧ m__law_draw [j, .int size] = .ok (.v (.int d), j') := FC.s_draw h size h0 h1
theorem s_same (d : D) {n : Nat} (h : psz d = some n) (hn : n < 20000) : m__law_same [d, d] = .ok (.v (.bl true)) := FC.s_same d h hn
theorem t_w (d : D) (h : noD d = true) : m_is_whole [d] = .ok (.v (.bl (isW d))) := Std.s_is_whole d h
theorem t_wi (d : D) (lo hi : Int) (h : noD d = true) : m_is_whole_in [d, .int lo, .int hi] = .ok (.v (.bl (isWin lo hi d))) := Std.s_is_whole_in d lo hi h
theorem t_tup (d : D) (lo hi : Int) (h : noD d = true) : m_is_tuple_of [d, .int lo, .int hi] = .ok (.v (.bl (isTup lo hi d))) := Std.s_is_tuple_of d lo hi h
theorem t_nam {z : Str} (h : Nam z) : m_is_name [.str z] = .ok (.v (.bl true)) := h.is
theorem t_nam1 (d : D) (h : Sh d) : m_is_name [d] = .ok (.v (.bl (isNm d))) := Std.nmD d h
theorem t_names (zs : List Str) (h : Nms zs) (hi : Int) (h1 : (zs.length : Int) ≤ hi) (h2 : zs.length < 100) : m_is_names [.tup (zs.map .str), .int 0, .int hi] = .ok (.v (.bl true)) := Std.s_is_names zs h hi h1 h2
theorem x_names0 (d : D) (hd : noD d = true) (hi : Int) (h : isTup 0 hi d = false) : m_is_names [d, .int 0, .int hi] = .ok (.v (.bl false)) := Std.x_is_names0 d hd hi h
theorem x_names (zs : List Str) (h : Nms zs) (h2 : zs.length < 100) (d : D) (hd : Sh d) (hb : isNm d = false ∨ ∃ z ∈ zs, d = .str z) (rest : List D) (hi : Int) : m_is_names [.tup (zs.map .str ++ d :: rest), .int 0, .int hi] = .ok (.v (.bl false)) := Std.x_is_names zs h h2 d hd hb rest hi
/-! rows -/
structure Ro where
  ms : List Str
  p : Int
def rD (r : Ro) : D := .tup [.tup (r.ms.map .str), .int r.p]
structure GoodN (zs : List Str) : Prop where
  n : Nms zs
  len : zs.length ≤ 12
structure GoodR (zs : List Str) (r : Ro) : Prop where
  nd : r.ms.Nodup
  sub : ∀ z ∈ r.ms, z ∈ zs
  len : r.ms.length ≤ 6
  p : r.p = 0 ∨ r.p = 1
theorem GoodR.nms {zs : List Str} (hz : GoodN zs) {r : Ro} (h : GoodR zs r) : Nms r.ms := ⟨fun z q => hz.n.nam z (h.sub z q), h.nd⟩
theorem ok_nms {zs : List Str} (h : Nms zs) : ∀ z ∈ zs, sOk z = true := fun z q => Nam.ok (h.nam z q)
theorem mem_step {zs : List Str} (hz : Nms zs) (S0 R3 : D) (v1 : Option S) (z : Str) (hk : sOk z = true) (h : z ∈ zs) : b_check_nicks_f1 [some (.v S0), v1, some (.v (.tup (zs.map .str))), some (.v R3), some (.v (.str z))] = .ok (.next [some (.v S0), v1, some (.v (.tup (zs.map .str))), some (.v R3), some (.v (.str z))]) := by
  have h1 := in_strsT (z := z) hk (ok_nms hz)
  simp [b_check_nicks_f1, h1, h]
/-- the turn of a good row -/
theorem row_turn {zs : List Str} (hz : GoodN zs) {r : Ro} (h : GoodR zs r) (S0 R3 : D) (v4 : Option S) : ∃ v4', b_check_nicks_f2 [some (.v S0), some (.v (rD r)), some (.v (.tup (zs.map .str))), some (.v R3), v4] = .ok (.next [some (.v S0), some (.v (rD r)), some (.v (.tup (zs.map .str))), some (.v R3), v4']) := by
  have key : Ev (b_check_nicks_f2 [some (.v S0), some (.v (rD r)), some (.v (.tup (zs.map .str))), some (.v R3), v4]) (fun x => ∃ v4', x = .next [some (.v S0), some (.v (rD r)), some (.v (.tup (zs.map .str))), some (.v R3), v4']) := by
    have n6 := t_names r.ms (h.nms hz) 6 (by have := h.len; omega) (by have := h.len; omega)
    have w := t_wi (.int r.p) 0 1 rfl
    have hp : (0 ≤ r.p ∧ r.p ≤ 1) := by have := h.p; omega
    simp [b_check_nicks_f2, rD, t_tup, n6, w, c_MOST_MEMBERS, hp]
    refine lp_v r.ms (h := D.str) (J := fun _ ρ => ∃ v4', ρ = [some (.v S0), some (.v (rD r)), some (.v (.tup (zs.map .str))), some (.v R3), v4']) rfl ⟨v4, by simp [rD]⟩ ?_ ?_
    · rintro i x _ hx ⟨v4', rfl⟩
      have hm := h.sub x (List.mem_of_getElem? hx)
      have := mem_step hz.n S0 R3 (some (.v (rD r))) x (ok_nms hz.n x hm) hm
      simp [this]
    · rintro _ ⟨v4', rfl⟩
      simp [rD, w, hp]
  obtain ⟨x, e, v4', rfl⟩ := key
  exact ⟨v4', e⟩
def sD (zs : List Str) (rs : List D) : D := .tup [.tup (zs.map .str), .tup rs]
theorem s_check (zs : List Str) (hz : GoodN zs) (rs : List Ro) (hr : ∀ r ∈ rs, GoodR zs r) (hl : rs.length ≤ 24) : m_check_nicks [sD zs (rs.map rD)] = .ok (.v .non) := by
  have n := t_names zs hz.n 12 (by have := hz.len; omega) (by have := hz.len; omega)
  have hl' : (rs.length : Int) ≤ 24 := by omega
  simp [m_check_nicks, b_check_nicks, sD, t_tup, n, c_MOST_NAMES, c_MOST_ROWS, hl']
  refine lp_eq rs (h := rD) (J := fun _ ρ => ∃ v1 v4, ρ = [some (.v (.tup [.tup (zs.map .str), .tup (rs.map rD)])), v1, some (.v (.tup (zs.map .str))), some (.v (.tup (rs.map rD))), v4]) rfl ⟨_, _, rfl⟩ ?_ ?_
  · rintro i x _ hx ⟨v1, v4, rfl⟩
    obtain ⟨v4', e⟩ := row_turn hz (hr x (List.mem_of_getElem? hx)) (.tup [.tup (zs.map .str), .tup (rs.map rD)]) (.tup (rs.map rD)) v4
    simp [e]
  · rintro _ ⟨v1, v4, rfl⟩
    simp
/-! what check_nicks refuses -/
def Bad (d : D) : Prop := isX (m_check_nicks [d]) "BadNick"
theorem bad_shape (d : D) (hd : noD d = true) (h : isTup 2 2 d = false) : Bad d := by
  unfold Bad
  simp [m_check_nicks, b_check_nicks, t_tup, hd, h]
theorem bad_names (n r : D) (h : m_is_names [n, .int 0, .int 12] = .ok (.v (.bl false))) : Bad (.tup [n, r]) := by
  unfold Bad
  simp [m_check_nicks, b_check_nicks, t_tup, c_MOST_NAMES, h]
theorem bad_rows (zs : List Str) (hz : GoodN zs) (r : D) (hd : noD r = true) (h : isTup 0 24 r = false) : Bad (.tup [.tup (zs.map .str), r]) := by
  have n := t_names zs hz.n 12 (by have := hz.len; omega) (by have := hz.len; omega)
  unfold Bad
  simp [m_check_nicks, b_check_nicks, t_tup, c_MOST_NAMES, c_MOST_ROWS, n, hd, h]
/-- a row that is refused -/
def BadR (zs : List Str) (d : D) : Prop := ∀ (S0 R3 : D) (v4 : Option S), isX (b_check_nicks_f2 [some (.v S0), some (.v d), some (.v (.tup (zs.map .str))), some (.v R3), v4]) "BadNick"
theorem bad_row (zs : List Str) (hz : GoodN zs) (rs : List Ro) (hr : ∀ r ∈ rs, GoodR zs r) (d : D) (hd : BadR zs d) (rest : List D) : Bad (sD zs (rs.map rD ++ d :: rest)) := by
  have n := t_names zs hz.n 12 (by have := hz.len; omega) (by have := hz.len; omega)
  by_cases hl : isTup 0 24 (.tup (rs.map rD ++ d :: rest)) = true
  · unfold Bad
    have t := t_tup (.tup (rs.map rD ++ d :: rest)) 0 24 rfl
    rw [hl] at t
    have t2 := t_tup (sD zs (rs.map rD ++ d :: rest)) 2 2 rfl
    generalize hR : rs.map rD ++ d :: rest = R at t t2
    simp [sD] at t2
    simp [m_check_nicks, b_check_nicks, sD, t2, c_MOST_NAMES, c_MOST_ROWS, n, t]
    rw [← hR]
    generalize hS : D.tup (rs.map rD ++ d :: rest) = R3
    refine lp_badx rs d rest (fun ρ => ∃ v1 v4, ρ = [some (.v (.tup [.tup (zs.map .str), R3])), v1, some (.v (.tup (zs.map .str))), some (.v R3), v4]) ⟨_, _, rfl⟩ ?_ ?_
    · rintro x _ hx ⟨v1, v4, rfl⟩
      obtain ⟨v4', e⟩ := row_turn hz (hr x hx) (.tup [.tup (zs.map .str), R3]) R3 v4
      simp [e]
    · rintro _ ⟨v1, v4, rfl⟩
      obtain ⟨ρ, e⟩ := isX_is (hd (.tup [.tup (zs.map .str), R3]) R3 v4)
      simp [e]
  · exact bad_rows zs hz _ rfl (by simpa using hl)
end K80

namespace K80
open PL PySem Std
open FC (Jar)
theorem br_shape (zs : List Str) (d : D) (hd : noD d = true) (h : isTup 2 2 d = false) : BadR zs d := fun S0 R3 v4 => by
  simp [b_check_nicks_f2, t_tup, hd, h]
theorem br_names (zs : List Str) (n p : D) (h : m_is_names [n, .int 0, .int 6] = .ok (.v (.bl false))) : BadR zs (.tup [n, p]) := fun S0 R3 v4 => by
  simp [b_check_nicks_f2, t_tup, c_MOST_MEMBERS, h]
theorem br_mem {zs : List Str} (hz : Nms zs) (z : Str) (hn : Nam z) (h : z ∉ zs) (p : D) : BadR zs (.tup [.tup [.str z], p]) := fun S0 R3 v4 => by
  have n := t_names [z] ⟨by simpa using hn, by simp⟩ 6 (by simp) (by simp)
  have h1 := in_strsT hn.ok (ok_nms hz)
  simp at n
  simp [b_check_nicks_f2, t_tup, c_MOST_MEMBERS, n, b_check_nicks_f1, h1, h, x_lp1]
theorem br_par1 {zs : List Str} (hz : Nms zs) (z : Str) (h : z ∈ zs) (p : D) (hp : noD p = true) (hw : isWin 0 1 p = false) : BadR zs (.tup [.tup [.str z], p]) := fun S0 R3 v4 => by
  have hn := hz.nam z h
  have n := t_names [z] ⟨by simpa using hn, by simp⟩ 6 (by simp) (by simp)
  have h1 := in_strsT hn.ok (ok_nms hz)
  have w := t_wi p 0 1 hp
  simp at n
  simp [b_check_nicks_f2, t_tup, c_MOST_MEMBERS, n, b_check_nicks_f1, h1, h, w, hw, x_lp1]
theorem nA : Nam "a" := ⟨97, [], by decide +kernel, by decide, by decide, by decide⟩
theorem nB : Nam "b" := ⟨98, [], by decide +kernel, by decide, by decide, by decide⟩
theorem nX : Nam "x" := ⟨120, [], by decide +kernel, by decide, by decide, by decide⟩
theorem nZ : Nam "zz" := ⟨122, [122], by decide +kernel, by decide, by decide, by decide⟩
theorem neAB : ("a" : Str) ≠ "b" := by decide +kernel
theorem nms1 {z : Str} (h : Nam z) : Nms [z] := ⟨by simpa using h, by simp⟩
theorem goodA : GoodN ["a"] := ⟨nms1 nA, by simp⟩
theorem nms7 : Nms ["a", "b", "c", "d", "e", "f", "g"] := ⟨by
    intro z hz
    simp only [List.mem_cons, List.not_mem_nil, or_false] at hz
    rcases hz with rfl | rfl | rfl | rfl | rfl | rfl | rfl
    · exact nA
    · exact nB
    · exact ⟨99, [], by decide +kernel, by decide, by decide, by decide⟩
    · exact ⟨100, [], by decide +kernel, by decide, by decide, by decide⟩
    · exact ⟨101, [], by decide +kernel, by decide, by decide, by decide⟩
    · exact ⟨102, [], by decide +kernel, by decide, by decide, by decide⟩
    · exact ⟨103, [], by decide +kernel, by decide, by decide, by decide⟩, by decide +kernel⟩
theorem good7 : GoodN ["a", "b", "c", "d", "e", "f", "g"] := ⟨nms7, by decide⟩
theorem goodAB : GoodN ["a", "b"] := ⟨⟨by simp [nA, nB], by simp; exact neAB⟩, by decide⟩
/-! the refusals -/
theorem look_b : look cat_BadNick "BadNick" = some true := by decide +kernel
theorem look_v : look ise_ValueError "BadNick" = some true := by decide +kernel
theorem refuses (d : D) (h : Bad d) (k : Int) (h0 : 0 ≤ k) (hk : k < 6) : m__law_refuses [.int k, d] = .ok (.v (.bl true)) := by
  unfold Bad at h
  obtain ⟨ρ, e⟩ := isX_is h
  have : k = 0 ∨ k = 1 ∨ k = 2 ∨ k = 3 ∨ k = 4 ∨ k = 5 := by omega
  rcases this with rfl | rfl | rfl | rfl | rfl | rfl
  · simp [m__law_refuses, b__law_refuses, x_sTry, e, look_b, look_v]
  · simp [m__law_refuses, b__law_refuses, x_sTry, m_keeps, b_keeps, e, look_b, look_v]
  · simp [m__law_refuses, b__law_refuses, x_sTry, m_settle_nicks, b_settle_nicks, e, look_b, look_v]
  · simp [m__law_refuses, b__law_refuses, x_sTry, m_upholds_nicks, b_upholds_nicks, e, look_b, look_v]
  · simp [m__law_refuses, b__law_refuses, x_sTry, m_told_apart, b_told_apart, e, look_b, look_v]
  · simp [m__law_refuses, b__law_refuses, x_sTry, m_freedom, b_freedom, e, look_b, look_v]
/-! the wrong subjects -/
def sv : List D := [.str "a", .str "b", .str "c", .str "d", .str "e", .str "f", .str "g"]
def wrong1 (zs : List Str) (rs : List Ro) : List D :=
  [.non, .tup [.tup (zs.map .str)], .tup [.tup (zs.map .str), .tup (rs.map rD), .int 0], .lst [.tup (zs.map .str), .tup (rs.map rD)], .tup [.lst (zs.map .str), .tup (rs.map rD)], .tup [.tup (zs.map .str), .lst (rs.map rD)]]
def wrong2 (zs : List Str) (rs : List Ro) : List D :=
  [.tup [.tup (zs.map .str ++ [.str "Aa"]), .tup (rs.map rD)], .tup [.tup (zs.map .str ++ [.str ""]), .tup (rs.map rD)], .tup [.tup (zs.map .str ++ [.int 7]), .tup (rs.map rD)], .tup [.tup (zs.map .str), .tup (rs.map rD ++ [.tup [], .int 0])]]
def wrong3 (zs : List Str) (rs : List Ro) : List D :=
  [.tup [.tup ((zs.take 11).map .str ++ [.str "x", .str "x"]), .tup (rs.map rD)], .tup [.tup [.str "a", .str "b", .str "c", .str "d", .str "e", .str "f", .str "g", .str "h", .str "i", .str "j", .str "k", .str "l", .str "m"], .tup []]]
def wrong4 (zs : List Str) : List D :=
  [.tup [.tup [.str "a", .str "b", .str "c", .str "d", .str "e", .str "f", .str "g"], .tup [.tup [.tup [.str "a", .str "b", .str "c", .str "d", .str "e", .str "f", .str "g"], .int 0]]], .tup [.tup (zs.map .str), .tup [.tup [.tup [.str "zz"], .int 0]]], .tup [.tup [.str "a", .str "b"], .tup [.tup [.tup [.str "a", .str "a"], .int 0]]]]
def wrong5 : List D :=
  [.tup [.tup [.str "a"], .tup (List.replicate 25 [D.tup [.tup [], .int 0]]).flatten], .tup [.tup [.str "a"], .tup [.tup [.lst [.str "a"], .int 0]]], .tup [.tup [.str "a"], .tup [.tup [.tup [.str "a"], .int 0, .int 0]]]]
def wrong6 (d : D) : D := .tup [.tup [.str "a"], .tup [.tup [.tup [], .int 1], .tup [.tup [.str "a"], d]]]
theorem shS {z : Str} (h : z.length ≤ 16777216) : Sh (.str z) := ⟨rfl, fun y e => by cases e; exact h⟩
theorem shI {i : Int} : Sh (.int i) := ⟨rfl, fun y e => by cases e⟩
theorem w1_bad (zs : List Str) (hz : GoodN zs) (rs : List Ro) (d : D) (hd : d ∈ wrong1 zs rs) : Bad d := by
  simp only [wrong1, List.mem_cons, List.not_mem_nil, or_false] at hd
  rcases hd with rfl | rfl | rfl | rfl | rfl | rfl
  · exact bad_shape _ rfl rfl
  · exact bad_shape _ rfl rfl
  · exact bad_shape _ rfl rfl
  · exact bad_shape _ rfl rfl
  · exact bad_names _ _ (x_names0 _ rfl 12 rfl)
  · exact bad_rows zs hz _ rfl rfl
theorem nm_len {zs : List Str} (hz : GoodN zs) : zs.length < 100 := by have := hz.len; omega
theorem w2_bad (zs : List Str) (hz : GoodN zs) (rs : List Ro) (hr : ∀ r ∈ rs, GoodR zs r) (d : D) (hd : d ∈ wrong2 zs rs) : Bad d := by
  simp only [wrong2, List.mem_cons, List.not_mem_nil, or_false] at hd
  rcases hd with rfl | rfl | rfl | rfl
  · exact bad_names _ _ (x_names zs hz.n (nm_len hz) _ (shS (by decide +kernel)) (.inl (by decide +kernel)) [] 12)
  · exact bad_names _ _ (x_names zs hz.n (nm_len hz) _ (shS (by decide +kernel)) (.inl (by decide +kernel)) [] 12)
  · exact bad_names _ _ (x_names zs hz.n (nm_len hz) _ shI (.inl (by decide +kernel)) [] 12)
  · exact bad_row zs hz rs hr (.tup []) (br_shape zs _ rfl rfl) [.int 0]
theorem take_nms {zs : List Str} (h : Nms zs) (n : Nat) : Nms (zs.take n) := ⟨fun z q => h.nam z (List.mem_of_mem_take q), List.Sublist.nodup (List.take_sublist _ _) h.nd⟩
theorem snoc_nms {zs : List Str} (h : Nms zs) {z : Str} (hz : Nam z) (hn : z ∉ zs) : Nms (zs ++ [z]) := ⟨fun y q => by
    rcases List.mem_append.mp q with q | q
    · exact h.nam y q
    · cases List.mem_singleton.mp q; exact hz, by
    rw [List.nodup_append]
    refine ⟨h.nd, by simp, fun a ha b hb => ?_⟩
    simp at hb
    subst hb
    intro e
    subst e
    exact hn ha⟩
theorem w3_bad (zs : List Str) (hz : GoodN zs) (hx : ("x" : Str) ∉ zs) (rs : List Ro) (d : D) (hd : d ∈ wrong3 zs rs) : Bad d := by
  simp only [wrong3, List.mem_cons, List.not_mem_nil, or_false] at hd
  rcases hd with rfl | rfl
  · have n := snoc_nms (take_nms hz.n 11) nX (fun q => hx (List.mem_of_mem_take q))
    have := x_names _ n (by simp; omega) (.str "x") (shS (by decide +kernel)) (.inr ⟨"x", by simp, rfl⟩) [] 12
    refine bad_names _ _ ?_
    simpa using this
  · exact bad_names _ _ (x_names0 _ rfl 12 rfl)
theorem w4_bad (zs : List Str) (hz : GoodN zs) (hx : ("zz" : Str) ∉ zs) (d : D) (hd : d ∈ wrong4 zs) : Bad d := by
  simp only [wrong4, List.mem_cons, List.not_mem_nil, or_false] at hd
  rcases hd with rfl | rfl | rfl
  · exact bad_row _ good7 [] (by simp) _ (br_names _ _ (.int 0) (x_names0 _ rfl 6 rfl)) []
  · exact bad_row _ hz [] (by simp) _ (br_mem hz.n "zz" nZ hx (.int 0)) []
  · have := x_names ["a"] (nms1 nA) (by decide) (.str "a") (shS (by decide +kernel)) (.inr ⟨"a", by simp, rfl⟩) [] 6
    exact bad_row _ goodAB [] (by simp) _ (br_names _ _ (.int 0) this) []
theorem w5_bad (d : D) (hd : d ∈ wrong5) : Bad d := by
  simp only [wrong5, List.mem_cons, List.not_mem_nil, or_false] at hd
  rcases hd with rfl | rfl | rfl
  · exact bad_rows ["a"] goodA _ rfl rfl
  · exact bad_row _ goodA [] (by simp) _ (br_names _ _ (.int 0) (x_names0 _ rfl 6 rfl)) []
  · exact bad_row _ goodA [] (by simp) _ (br_shape _ _ rfl rfl) []
theorem w6_bad (d : D) (hd : noD d = true) (hw : isWin 0 1 d = false) : Bad (wrong6 d) :=
  bad_row ["a"] goodA [⟨[], 1⟩] (by simp; exact ⟨by simp, by simp, by simp, .inr rfl⟩) _ (br_par1 goodA.n "a" (by simp) d hd hw) []
def wrongs (zs : List Str) (rs : List Ro) : List D := wrong1 zs rs ++ wrong2 zs rs ++ wrong3 zs rs ++ wrong4 zs ++ wrong5 ++ [wrong6 (.int 2), wrong6 (.int (-1)), wrong6 (.bl true), wrong6 .non]
theorem wrongs_bad (zs : List Str) (hz : GoodN zs) (hx : ("x" : Str) ∉ zs) (hx2 : ("zz" : Str) ∉ zs) (rs : List Ro) (hr : ∀ r ∈ rs, GoodR zs r) (d : D) (hd : d ∈ wrongs zs rs) : Bad d := by
  simp only [wrongs, List.mem_append] at hd
  rcases hd with ((((hd | hd) | hd) | hd) | hd) | hd
  · exact w1_bad zs hz rs d hd
  · exact w2_bad zs hz rs hr d hd
  · exact w3_bad zs hz hx rs d hd
  · exact w4_bad zs hz hx2 d hd
  · exact w5_bad d hd
  · simp only [List.mem_cons, List.not_mem_nil, or_false] at hd
    rcases hd with rfl | rfl | rfl | rfl <;> exact w6_bad _ rfl rfl
def b4 : List D := [.int 2, .int (-1), .bl true, .non]
theorem s_wrong (zs : List Str) (hz : GoodN zs) (rs : List Ro) (hl : rs.length ≤ 24) : m__law_wrong [.tup (zs.map .str), .tup (rs.map rD)] = .ok (.o (.lst (wrongs zs rs))) := by
  have l1 := hz.len
  have h1 : zs.length + 1 ≤ 16777216 := by omega
  have h2 : rs.length + 2 ≤ 16777216 := by omega
  have h3 : min 11 zs.length + 2 ≤ 16777216 := by omega
  have h4 : min 11 zs.length ≤ 16777214 := by omega
  simp [m__law_wrong, b__law_wrong, h1, h2, h3, h4, cutG_to]
  refine lp_eq b4 (h := id) (J := fun i ρ => ∃ v4, ρ = [some (.v (.tup (zs.map .str))), some (.v (.tup (rs.map rD))), some (.v (.tup sv)), some (.o (.lst (wrong1 zs rs ++ wrong2 zs rs ++ wrong3 zs rs ++ wrong4 zs ++ wrong5 ++ (b4.take i).map wrong6))), v4]) (List.map_id _).symm ⟨none, ?_⟩ ?_ ?_
  · simp [wrong1, wrong2, wrong3, wrong4, wrong5, sv]
  · rintro i x _ hx ⟨v4, rfl⟩
    have hi : i < 4 := (List.getElem?_eq_some_iff.mp hx).1
    have e : (b4.take (i + 1)).map wrong6 = (b4.take i).map wrong6 ++ [wrong6 x] := by rw [List.take_add_one, hx, List.map_append]; rfl
    have hq : (wrong1 zs rs ++ wrong2 zs rs ++ wrong3 zs rs ++ wrong4 zs ++ wrong5 ++ (b4.take i).map wrong6).length + 1 ≤ 16777216 := by simp [wrong1, wrong2, wrong3, wrong4, wrong5]; omega
    have hq2 : (wrong1 zs rs ++ wrong2 zs rs ++ wrong3 zs rs ++ wrong4 zs ++ wrong5 ++ (b4.take i).map wrong6).length < 16777216 := by omega
    rw [e]
    rw [← List.append_assoc]
    generalize wrong1 zs rs ++ wrong2 zs rs ++ wrong3 zs rs ++ wrong4 zs ++ wrong5 ++ (b4.take i).map wrong6 = M at *
    simp [b__law_wrong_f1, hq, hq2]
    rfl
  · rintro _ ⟨v4, rfl⟩
    simp [wrongs, b4]
end K80

namespace K80
open PL PySem Std
open FC (Jar)
theorem x_wh {t : Tx} {f : Sx} {ρ : Rho} {n : Nat} (h : 0 < n) : sWh t f n ρ = (t ρ >>= fun p => if p.1 = true then f p.2 >>= aft (sWh t f (n - 1)) else .ok (.next p.2)) := by
  cases n with
  | zero => omega
  | succ n => rfl
theorem single_str (x y : Str) : m_same_single [.str x, .str y] = .ok (.v (.bl (decide (x = y)))) := by
  simp [m_same_single, b_same_single]
theorem tr1 (d : D) (ds : List D) : dTru (.lst (d :: ds)) = some true := rfl
theorem tr0 : dTru (.lst []) = some false := rfl
theorem pop1 (d : D) : mPop [d] [] = some (d, []) := by have := x_pop [] d; simpa using this
theorem same_str (x y : Str) : m_same [.str x, .str y] = .ok (.v (.bl (decide (x = y)))) := by
  simp only [m_same, b_same]
  generalize hN : (1000000000 : Nat) = N
  have h0 : 0 < N := by omega
  have h1 : 0 < N - 1 := by omega
  have e := single_str x y
  by_cases h : x = y
  · simp [h] at e
    simp [x_wh h0, b_same_t2, b_same_w2, h, e, x_wh h1, tr1, tr0, pop1]
  · simp [h] at e
    simp [x_wh h0, b_same_t2, b_same_w2, h, e, x_wh h1, tr1, tr0, pop1]
/-! pairs -/
structure Pa where
  a : Str
  b : Str
  o : Bool
def wD (o : Bool) : Str := if o then "differ" else "same"
def oI (o : Bool) : Int := if o then 1 else 0
def pD (p : Pa) : D := .tup [.str p.a, .str p.b, .str (wD p.o)]
def duD (p : Pa) : D := if p.a = p.b then .tup [.tup [], .int (oI p.o)] else .tup [.tup [.str p.a, .str p.b], .int (oI p.o)]
structure GoodP (p : Pa) : Prop where
  a : Nam p.a
  b : Nam p.b
theorem s_row (a b : Str) (k : Int) : m_nick_row [.str a, .str b, .int k] = .ok (.v (if a = b then .tup [.tup [], .int k] else .tup [.tup [.str a, .str b], .int k])) := by
  by_cases h : a = b <;> simp [m_nick_row, b_nick_row, h]
theorem ne_sd : ¬ ("differ" : Str) = "same" := by decide +kernel
theorem pr_step (A : D) (p : Pa) (h : GoodP p) (acc : List D) (hl : acc.length < 16777216) : b_nick_rows_f1 [some (.v A), some (.o (.lst acc)), some (.v (pD p))] = .ok (.next [some (.v A), some (.o (.lst (acc ++ [duD p]))), some (.v (pD p))]) := by
  have t1 := t_nam h.a
  have t2 := t_nam h.b
  have t3 := t_tup (pD p) 3 3 rfl
  have hl2 : acc.length + 1 ≤ 16777216 := hl
  obtain ⟨a, b, o⟩ := p
  simp only [pD] at t1 t2 t3
  cases o
  · have s1 := same_str "same" "same"
    have r := s_row a b 0
    simp [wD] at s1 t3
    simp [b_nick_rows_f1, pD, duD, wD, oI, t1, t2, t3, s1, r, hl]
  · have s1 := same_str "differ" "same"
    have s2 := same_str "differ" "differ"
    have r := s_row a b 1
    simp [wD, ne_sd] at s1 s2 t3
    simp [b_nick_rows_f1, pD, duD, wD, oI, t1, t2, t3, s1, s2, r, hl]
theorem pr_lp (A : D) (rest : List D) : ∀ (ps : List Pa) (acc : List D) (v2 : Option S), (∀ p ∈ ps, GoodP p) → acc.length + ps.length < 1000 →
    ∃ v2', lp (gNm [] 2) b_nick_rows_f1 (ps.map pD ++ rest) [some (.v A), some (.o (.lst acc)), v2] = lp (gNm [] 2) b_nick_rows_f1 rest [some (.v A), some (.o (.lst (acc ++ ps.map duD))), v2']
  | [], acc, v2, _, _ => ⟨v2, by simp⟩
  | p :: ps, acc, v2, hn, hl => by
    rw [List.length_cons] at hl
    obtain ⟨v2', ih⟩ := pr_lp A rest ps (acc ++ [duD p]) (some (.v (pD p))) (fun q h => hn q (List.mem_cons_of_mem _ h)) (by simp; omega)
    refine ⟨v2', ?_⟩
    rw [List.map_cons, List.cons_append, x_lp1]
    have e0 : gNm [] 2 (pD p) [some (.v A), some (.o (.lst acc)), v2] = some [some (.v A), some (.o (.lst acc)), some (.v (pD p))] := by simp
    rw [e0, liftO_some, bind_ok, pr_step A p (hn p (List.mem_cons_self ..)) acc (by omega), bind_ok, x_aft1, ih]
    simp
theorem s_rows (ps : List Pa) (h : ∀ p ∈ ps, GoodP p) (hl : ps.length < 100) : m_nick_rows [.tup (ps.map pD)] = .ok (.v (.tup (ps.map duD))) := by
  obtain ⟨v2, e⟩ := pr_lp (.tup (ps.map pD)) [] ps [] none h (by simp; omega)
  simp at e
  simp [m_nick_rows, b_nick_rows, e]
def BadP (d : D) : Prop := ∀ (A : D) (acc : List D), isX (b_nick_rows_f1 [some (.v A), some (.o (.lst acc)), some (.v d)]) "BadNick"
theorem x_rows (ps : List Pa) (h : ∀ p ∈ ps, GoodP p) (hl : ps.length < 100) (d : D) (hd : BadP d) (rest : List D) : isX (m_nick_rows [.tup (ps.map pD ++ d :: rest)]) "BadNick" := by
  generalize hA : D.tup (ps.map pD ++ d :: rest) = A
  obtain ⟨v2, e⟩ := pr_lp A (d :: rest) ps [] none h (by simp; omega)
  obtain ⟨ρ, e2⟩ := isX_is (hd A (ps.map duD))
  have e3 : lp (gNm [] 2) b_nick_rows_f1 (ps.map pD ++ d :: rest) [some (.v A), some (.o (.lst [])), none] = .exc "BadNick" ρ := by
    rw [e, List.nil_append, x_lp1]
    simp [e2]
  subst hA
  simp [m_nick_rows, b_nick_rows, e3]
theorem x_rows0 (d : D) (h : isT .tuple d = some false) : isX (m_nick_rows [d]) "BadNick" := by
  simp [m_nick_rows, b_nick_rows, h]
theorem bp_shape (d : D) (hd : noD d = true) (h : isTup 3 3 d = false) : BadP d := fun A acc => by
  simp [b_nick_rows_f1, t_tup, hd, h]
theorem bp_name (a b c : D) (ha : Sh a) (hb : Sh b) (h : isNm a = false ∨ isNm b = false) : BadP (.tup [a, b, c]) := fun A acc => by
  have t1 := t_nam1 a ha
  have t2 := t_nam1 b hb
  cases e : isNm a
  · simp [b_nick_rows_f1, t_tup, t1, e]
  · have e2 : isNm b = false := by
      rcases h with h | h
      · rw [h] at e; cases e
      · exact h
    simp [b_nick_rows_f1, t_tup, t1, t2, e, e2]
theorem ne_es : ¬ ("equal" : Str) = "same" := by decide +kernel
theorem ne_ed : ¬ ("equal" : Str) = "differ" := by decide +kernel
theorem bp_word : BadP (.tup [.str "a", .str "b", .str "equal"]) := fun A acc => by
  have s1 := same_str "equal" "same"
  have s2 := same_str "equal" "differ"
  simp [ne_es, ne_ed] at s1 s2
  simp [b_nick_rows_f1, t_tup, t_nam nA, t_nam nB, s1, s2]
theorem refused (d : D) (h : isX (m_nick_rows [d]) "BadNick") : m__law_pairs_refused [d] = .ok (.v (.bl true)) := by
  obtain ⟨ρ, e⟩ := isX_is h
  simp [m__law_pairs_refused, b__law_pairs_refused, x_sTry, e, look_b]
def badPs : List D := [.tup [.str "a", .str "b"], .tup [.str "a", .str "b", .str "equal"], .tup [.str "a", .str "", .str "same"], .tup [.int 1, .str "b", .str "same"], .lst [.str "a", .str "b", .str "same"], .non]
theorem badPs_bad (d : D) (hd : d ∈ badPs) : BadP d := by
  simp only [badPs, List.mem_cons, List.not_mem_nil, or_false] at hd
  rcases hd with rfl | rfl | rfl | rfl | rfl | rfl
  · exact bp_shape _ rfl rfl
  · exact bp_word
  · exact bp_name _ _ _ (shS (by decide +kernel)) (shS (by decide +kernel)) (.inr (by decide +kernel))
  · exact bp_name _ _ _ shI (shS (by decide +kernel)) (.inl (by decide +kernel))
  · exact bp_shape _ rfl rfl
  · exact bp_shape _ rfl rfl
/-! the drawn pairs -/
theorem b01 (d : Int) (h0 : 0 ≤ d) (h : d < 2) : ∃ o : Bool, d = oI o ∧ L2.atI [D.str "same", D.str "differ"] d = some (.str (wD o)) := by
  have : d = 0 ∨ d = 1 := by omega
  rcases this with rfl | rfl
  · exact ⟨false, rfl, by simp [wD]⟩
  · exact ⟨true, rfl, by simp [wD]⟩
def JP (ns : List Int) (zs : List Str) (i : Nat) (ρ : Rho) : Prop := ∃ (ps : List Pa) (j : D) (v5 v6 v7 v8 : Option S), (∀ p ∈ ps, GoodP p) ∧ ps.length = i ∧ Jar j ∧ ρ = [some (.v (.scr ns)), some (.v (.tup (zs.map .str))), some (.o j), some (.o (.lst (ps.map pD))), some (.o (.lst (ps.map duD))), v5, v6, v7, v8]
theorem s_pairs (ns : List Int) (zs : List Str) (hz : GoodN zs) : ∃ ps : List Pa, (∀ p ∈ ps, GoodP p) ∧ ps.length < 100 ∧ m__law_pairs [.scr ns, .tup (zs.map .str)] = .ok (.o (.lst [.tup (ps.map pD), .tup (ps.map duD)])) := by
  have key : Ev (m__law_pairs [.scr ns, .tup (zs.map .str)]) (fun s => ∃ ps : List Pa, (∀ p ∈ ps, GoodP p) ∧ ps.length < 100 ∧ s = .o (.lst [.tup (ps.map pD), .tup (ps.map duD)])) := by
    obtain ⟨j, hj, ej⟩ := s_jar ns 26 (by decide) (by decide)
    by_cases h0 : 0 < zs.length
    · obtain ⟨d, j1, hj1, d0, d1, e1⟩ := s_draw hj 9 (by decide) (by decide)
      obtain ⟨n, rfl⟩ := Int.eq_ofNat_of_zero_le d0
      have x1 := x_int1' (n : Int) (by omega)
      simp [m__law_pairs, b__law_pairs, ej, h0, e1, x1]
      refine rg_v (J := JP ns zs) ⟨[], j1, none, none, none, none, by simp, rfl, hj1, rfl⟩ ?_ ?_
      · rintro i _ hi ⟨ps, j, v5, v6, v7, v8, hp, hl, hj, rfl⟩
        have hL := hz.len
        obtain ⟨d1, j1, hj1, a1, b1, e1⟩ := s_draw hj (zs.length : Int) (by omega) (by omega)
        obtain ⟨d2, j2, hj2, a2, b2, e2⟩ := s_draw hj1 (zs.length : Int) (by omega) (by omega)
        obtain ⟨d3, j3, hj3, a3, b3, e3⟩ := s_draw hj2 2 (by decide) (by decide)
        obtain ⟨z1, g1, m1⟩ := atI_ex (xs := zs) a1 (by omega)
        obtain ⟨z2, g2, m2⟩ := atI_ex (xs := zs) a2 (by omega)
        have g1 := atI_map' D.str g1
        have g2 := atI_map' D.str g2
        obtain ⟨o, rfl, g3⟩ := b01 d3 a3 b3
        have hpl : ps.length < 16777216 := by omega
        have gp : ∀ p ∈ ps ++ [(⟨z1, z2, o⟩ : Pa)], GoodP p := fun p hq => by
          rcases List.mem_append.mp hq with q | q
          · exact hp p q
          · cases List.mem_singleton.mp q; exact ⟨hz.n.nam _ m1, hz.n.nam _ m2⟩
        by_cases q : z1 = z2
        · simp [b__law_pairs_f1, e1, e2, e3, g1, g2, g3, q, hpl]
          refine ⟨ps ++ [⟨z1, z2, o⟩], j3, some (.v (.int (i : Int))), some (.v (.str z2)), some (.v (.str z2)), some (.v (.int (oI o))), gp, by simp; omega, hj3, ?_⟩
          simp [pD, duD, q]
        · simp [b__law_pairs_f1, e1, e2, e3, g1, g2, g3, q, hpl]
          refine ⟨ps ++ [⟨z1, z2, o⟩], j3, some (.v (.int (i : Int))), some (.v (.str z1)), some (.v (.str z2)), some (.v (.int (oI o))), gp, by simp; omega, hj3, ?_⟩
          simp [pD, duD, q]
      · rintro _ ⟨ps, j, v5, v6, v7, v8, hp, hl, hj, rfl⟩
        have hl : ps.length < 100 := by omega
        simp
        exact ⟨ps, hp, hl, rfl, rfl⟩
    · simp [m__law_pairs, b__law_pairs, ej, h0]
      done
  obtain ⟨s, e, ps, h1, h2, rfl⟩ := key
  exact ⟨ps, h1, h2, e⟩
end K80

namespace K80
open PL PySem Std
open FC (Jar)
theorem exists_nk : ∀ (zs : List Str) (bs : List Int), zs.Nodup → bs.length = zs.length → ∃ nk : Str → Int, bs = zs.map nk
  | [], bs, _, h => ⟨fun _ => 0, by simpa using h⟩
  | z :: zs, bs, hn, h => by
    match bs, h with
    | b :: bs, h =>
      obtain ⟨nk, e⟩ := exists_nk zs bs (List.nodup_cons.mp hn).2 (by simpa using h)
      refine ⟨fun y => if y = z then b else nk y, ?_⟩
      rw [List.map_cons, if_pos rfl, e]
      congr 1
      refine List.map_congr_left fun y hy => ?_
      rw [if_neg]
      intro q
      subst q
      exact (List.nodup_cons.mp hn).1 hy
theorem zp_map (f g : Str → D) : ∀ zs : List Str, zpD (zs.map f) (zs.map g) = zs.map fun z => .tup [f z, g z]
  | [] => rfl
  | z :: zs => by
    have := zp_map f g zs
    simp [zpD] at this ⊢
    try exact this
theorem sum_perm {a b : List Int} (p : a.Perm b) : a.sum = b.sum := by
  induction p with
  | nil => rfl
  | cons x _ ih => simp [ih]
  | swap x y l => simp; omega
  | trans _ _ h1 h2 => rw [h1, h2]
theorem ints_map {α : Type} (f : α → Int) : ∀ xs : List α, intsD (xs.map fun x => .int (f x)) = some (xs.map f)
  | [] => rfl
  | x :: xs => by
    have := ints_map f xs
    simp [intsD] at this ⊢
    try exact this
/-! is_nicking -/
def nickB (n : Nat) : D → Bool
  | .tup ds => decide (ds.length = n) && ds.all (isWin 0 1)
  | _ => false
theorem s_nicking (zs : List D) (d : D) (hd : noD d = true) (hk : ∀ ds, d ≠ .ktp ds) (hs : ∀ ds, d = .tup ds → ∀ x ∈ ds, noD x = true) : m_is_nicking [.tup zs, d] = .ok (.v (.bl (nickB zs.length d))) := by
  have t := t_tup d zs.length zs.length hd
  by_cases ht : isTup zs.length zs.length d = true
  · cases d <;> first | (cases ht; done) | skip
    case ktp ds => exact (hk _ rfl).elim
    case tup ds =>
      have hl : ds.length = zs.length := by simp at ht; omega
      have hs := hs ds rfl
      rw [ht] at t
      simp [m_is_nicking, b_is_nicking, t]
      have hB1 : (∀ x ∈ ds, isWin 0 1 x = true) → nickB zs.length (.tup ds) = true := fun h => by simp [nickB, hl]; exact h
      have hB2 : ∀ x ∈ ds, isWin 0 1 x = false → nickB zs.length (.tup ds) = false := fun x hx h => by
        simp [nickB, hl]; exact ⟨x, hx, h⟩
      generalize nickB zs.length (.tup ds) = B at hB1 hB2
      refine lp_eq ds (h := id) (J := fun i ρ => (∀ x ∈ ds.take i, isWin 0 1 x = true) ∧ ∃ v2, ρ = [some (.v (.tup zs)), some (.v (.tup ds)), v2]) (List.map_id _).symm ⟨by simp, none, rfl⟩ ?_ ?_
      · rintro i x _ hx ⟨hw, v2, rfl⟩
        have hm := List.mem_of_getElem? hx
        have w := t_wi x 0 1 (hs x hm)
        cases q : isWin 0 1 x
        · have := hB2 x hm q
          simp [b_is_nicking_f1, w, q, this]
        · simp [b_is_nicking_f1, w, q]
          rw [List.take_add_one, hx]
          intro y hy
          rcases List.mem_append.mp hy with hy | hy
          · exact hw y hy
          · cases (show y = x by simpa using hy); exact q
      · rintro _ ⟨hw, v2, rfl⟩
        have := hB1 (by simpa using hw)
        simp [this]
  · have ht : isTup zs.length zs.length d = false := by simpa using ht
    have : nickB zs.length d = false := by
      cases d <;> first | rfl | skip
      case tup ds => simp at ht; simp [nickB]; omega
    rw [ht] at t
    simp [m_is_nicking, b_is_nicking, t, this]
/-! keeps -/
def kept (nk : Str → Int) (r : Ro) : Bool := decide ((r.ms.map nk).sum % 2 = r.p)
def bD (zs : List Str) (nk : Str → Int) : D := .tup (zs.map fun z => .int (nk z))
theorem take_all {α : Type} {p : α → Bool} {xs : List α} {i : Nat} {x : α} (hw : ∀ x ∈ xs.take i, p x = true) (hx : xs[i]? = some x) (h : p x = true) : ∀ x ∈ xs.take (i + 1), p x = true := by
  rw [List.take_add_one, hx]
  intro y hy
  rcases List.mem_append.mp hy with hy | hy
  · exact hw y hy
  · cases (show y = x by simpa using hy); exact h
theorem look_nk (zs : List Str) (nk : Str → Int) {z : Str} (h : z ∈ zs) : gGet false (zs.map fun z => (D.str z, D.int (nk z))) [.inr z] = some (.int (nk z)) := by
  have g := gGet_map (fun z : Str => z) (fun z => D.int (nk z)) z zs
  rw [g]
  have : zs.find? (fun x => decide (x = z)) = some z := by
    cases e : zs.find? (fun x => decide (x = z)) with
    | none => have := List.find?_eq_none.mp e z h; simp at this
    | some y => have := List.find?_some e; simp at this; rw [this]
  rw [this]
  rfl
theorem s_keeps (zs : List Str) (hz : GoodN zs) (rs : List Ro) (hr : ∀ r ∈ rs, GoodR zs r) (hl : rs.length ≤ 24) (nk : Str → Int) (hn : ∀ z ∈ zs, 0 ≤ nk z ∧ nk z ≤ 1) : m_keeps [sD zs (rs.map rD), bD zs nk] = .ok (.v (.bl (rs.all (kept nk)))) := by
  have c := s_check zs hz rs hr hl
  have k := s_nicking (zs.map .str) (bD zs nk) rfl (by intro ds e; cases e) (by
    intro ds e x hx
    cases e
    obtain ⟨z, _, rfl⟩ := List.mem_map.mp hx
    rfl)
  have kk : nickB (zs.map D.str).length (bD zs nk) = true := by
    simp [nickB, bD]
    exact fun z hz => hn z hz
  rw [kk] at k
  have hB1 : (∀ x ∈ rs, kept nk x = true) → rs.all (kept nk) = true := fun h => by simpa using h
  have hB2 : ∀ x ∈ rs, kept nk x = false → rs.all (kept nk) = false := fun x hx h => by simpa using ⟨x, hx, h⟩
  generalize rs.all (kept nk) = B at hB1 hB2
  have hL := hz.len
  have zp : zip2 [.tup (zs.map .str), bD zs nk] = some (zs.map fun z => .tup [.str z, .int (nk z)]) := by
    simp [zip2, bD, isTupD, dSeq, zp_map]
  simp only [sD] at c k ⊢
  simp [m_keeps, b_keeps, c, k, zp]
  refine dc_b zs (fun z => z) (fun z => .int (nk z)) (h := fun z => D.tup [.str z, .int (nk z)]) rfl (by omega) (by simpa using hz.n.nd) ?_ ?_
  · intro z _
    simp [DTurn, b_keeps_k1, b_keeps_c1]
  simp
  refine lp_eq rs (h := rD) (J := fun i ρ => (∀ x ∈ rs.take i, kept nk x = true) ∧ ∃ v5 v6, ρ = [some (.v (.tup [.tup (zs.map .str), .tup (rs.map rD)])), some (.v (bD zs nk)), some (.o (.dic false (zs.map fun z => (D.str z, D.int (nk z))))), some (.v (.tup (zs.map .str))), some (.v (.tup (rs.map rD))), v5, v6, none, none]) rfl ⟨by simp, none, none, rfl⟩ ?_ ?_
  · rintro i x _ hx ⟨hw, v5, v6, rfl⟩
    have hm := List.mem_of_getElem? hx
    have g := hr x hm
    simp [b_keeps_f3, rD, x_eLc]
    refine lm_a (h := D.str) x.ms (fun z => .int (nk z)) rfl (by have := g.len; omega) (fun z hz' => ?_) ?_
    · have l := look_nk zs nk (g.sub z hz')
      simp [b_keeps_c2, l]
    · by_cases q : (x.ms.map nk).sum % 2 = x.p
      · simp [ints_map, q]
        exact take_all hw hx (by simp [kept, q])
      · have := hB2 x hm (by simp [kept, q])
        simp [ints_map, q, this]
  · rintro _ ⟨hw, v5, v6, rfl⟩
    have := hB1 (by simpa using hw)
    simp [this]
/-! the law's own reading -/
theorem own_sum (zs ms : List Str) (hz : zs.Nodup) (hm : ms.Nodup) (hs : ∀ z ∈ ms, z ∈ zs) (nk : Str → Int) :
    (((List.range zs.length).filter fun k => decide (zs.getD k "" ∈ ms)).map fun k => nk (zs.getD k "")).sum = (ms.map nk).sum := by
  have e : (List.range zs.length).map (fun k => zs.getD k "") = zs := by
    apply List.ext_getElem
    · simp
    · intro k h1 h2
      simp [List.getD_eq_getElem?_getD, h2]
  have e2 : ((List.range zs.length).filter fun k => decide (zs.getD k "" ∈ ms)).map (fun k => zs.getD k "") = zs.filter fun z => decide (z ∈ ms) := by
    conv => rhs; rw [← e]
    rw [List.filter_map]
    rfl
  have e3 : ((List.range zs.length).filter fun k => decide (zs.getD k "" ∈ ms)).map (fun k => nk (zs.getD k "")) = (zs.filter fun z => decide (z ∈ ms)).map nk := by
    rw [← e2, List.map_map]
    rfl
  rw [e3]
  refine sum_perm (List.Perm.map nk ?_)
  rw [List.perm_ext_iff_of_nodup (List.Nodup.sublist List.filter_sublist hz) hm]
  intro a
  simp only [List.mem_filter, decide_eq_true_eq]
  exact ⟨fun h => h.2, fun h => ⟨hs a h, h⟩⟩
theorem at_zs (f : Str → D) (zs : List Str) (k : Nat) (hk : k < zs.length) : L2.atI (zs.map f) (k : Int) = some (f (zs.getD k "")) := by
  have : (zs.map f)[k]? = some (f (zs.getD k "")) := by simp [hk, List.getD_eq_getElem?_getD]
  exact atI_ofNat _ _ _ this
theorem s_lkeeps (zs : List Str) (hz : GoodN zs) (rs : List Ro) (hr : ∀ r ∈ rs, GoodR zs r) (nk : Str → Int) : m__law_keeps [.tup (zs.map .str), .tup (rs.map rD), bD zs nk] = .ok (.v (.bl (rs.all (kept nk)))) := by
  have hB1 : (∀ x ∈ rs, kept nk x = true) → rs.all (kept nk) = true := fun h => by simpa using h
  have hB2 : ∀ x ∈ rs, kept nk x = false → rs.all (kept nk) = false := fun x hx h => by simpa using ⟨x, hx, h⟩
  generalize rs.all (kept nk) = B at hB1 hB2
  have hL := hz.len
  have x1 := x_int1' (zs.length : Int) (by omega)
  simp [m__law_keeps, b__law_keeps]
  refine lp_eq rs (h := rD) (J := fun i ρ => (∀ x ∈ rs.take i, kept nk x = true) ∧ ∃ v3 v4, ρ = [some (.v (.tup (zs.map .str))), some (.v (.tup (rs.map rD))), some (.v (bD zs nk)), v3, v4, none]) rfl ⟨by simp, none, none, rfl⟩ ?_ ?_
  · rintro i x _ hx ⟨hw, v3, v4, rfl⟩
    have hm := List.mem_of_getElem? hx
    have g := hr x hm
    simp [b__law_keeps_f2, rD, x_eLc, x1]
    refine lc_a (List.range zs.length) (fun k => decide (zs.getD k "" ∈ x.ms)) (fun k => .int (nk (zs.getD k ""))) (h := fun k : Nat => D.int (0 + (k : Int))) rfl (by simp; omega) (fun k hk => ?_) ?_
    · have hk : k < zs.length := by simpa using hk
      have a1 := at_zs D.str zs k hk
      have a2 := at_zs (fun z => D.int (nk z)) zs k hk
      have hmz : zs.getD k "" ∈ zs := by
        rw [List.getD_eq_getElem?_getD, List.getElem?_eq_getElem hk]; exact List.getElem_mem hk
      generalize zs.getD k "" = z at a1 a2 hmz ⊢
      have i1 := in_strsT (ok_nms hz.n z hmz) (ok_nms (g.nms hz))
      by_cases q : z ∈ x.ms <;> simp [a1, i1, q, b__law_keeps_c1, bD, a2]
    · have os := own_sum zs x.ms hz.n.nd g.nd g.sub nk
      simp at os
      by_cases q : (x.ms.map nk).sum % 2 = x.p
      · simp [ints_map, os, q]
        exact take_all hw hx (by simp [kept, q])
      · have := hB2 x hm (by simp [kept, q])
        simp [ints_map, os, q, this]
  · rintro _ ⟨hw, v3, v4, rfl⟩
    have := hB1 (by simpa using hw)
    simp [this]
end K80

namespace K80
open PL PySem Std
open FC (Jar)
/-! the drawn subject -/
def Ls : List Nat := [109, 98, 121, 97, 99, 119, 102, 107, 100, 104, 117, 103]
def Ts : List Nat := [51, 114, 48, 116]
theorem cut_t (t : Int) (h0 : 0 ≤ t) (h : t < 5) : L2.cutS "3r0t" none (some t) = ⟨(Ts.take t.toNat).toArray⟩ := by
  have key : ∀ k : Nat, k < 5 → L2.cutS "3r0t" none (some (k : Int)) = ⟨(Ts.take k).toArray⟩ := by decide +kernel
  have := key t.toNat (by omega)
  rwa [show ((t.toNat : Nat) : Int) = t by omega] at this
theorem ls_at (i : Int) (h0 : 0 ≤ i) (h : i < 12) : ∃ c, Ls[i.toNat]? = some c ∧ L2.atI (Str.ofString "mbyacwfkdhug").cps.toList i = some c ∧ letC c = true := by
  have key : ∀ k : Nat, k < 12 → (Str.ofString "mbyacwfkdhug").cps.toList[k]? = Ls[k]? ∧ (Ls[k]?.map letC) = some true := by decide +kernel
  obtain ⟨k1, k2⟩ := key i.toNat (by omega)
  rw [atI_pos h0, k1]
  cases e : Ls[i.toNat]? with
  | none => rw [e] at k2; cases k2
  | some c => rw [e] at k2; exact ⟨c, rfl, rfl, by simpa using k2⟩
def nmS (c : Nat) (t : Int) : Str := (⟨#[c]⟩ : Str) ++ ⟨(Ts.take t.toNat).toArray⟩
theorem nm_list (c : Nat) (t : Int) : nmS c t = ⟨(c :: Ts.take t.toNat).toArray⟩ := by
  show Str.mk (#[c] ++ (Ts.take t.toNat).toArray) = _
  simp
theorem nm_nam {c : Nat} (h : letC c = true) (t : Int) : Nam (nmS c t) := by
  refine ⟨c, Ts.take t.toNat, nm_list c t, h, by rw [List.length_take]; simp [Ts]; omega, fun d hd => ?_⟩
  have hd := List.mem_of_mem_take hd
  have key : ∀ d ∈ Ts, letC d = true ∨ digC d = true := by decide
  exact key d hd
def hd (z : Str) : Option Nat := z.cps.toList.head?
theorem hd_nm (c : Nat) (t : Int) : hd (nmS c t) = some c := by rw [nm_list]; rfl
def lt12 (s : Int) (k : Nat) : Option Nat := Ls[(((k : Int) + s) % 12).toNat]?
theorem lt12_nodup (s : Int) (n : Nat) (hn : n ≤ 12) : ((List.range n).map (lt12 s)).Nodup := by
  have key : ∀ r : Nat, r < 12 → ((List.range 12).map fun k => Ls[(k + r) % 12]?).Nodup := by decide +kernel
  have k9 := key (s % 12).toNat (by omega)
  have e : ((List.range 12).map fun k => Ls[(k + (s % 12).toNat) % 12]?) = (List.range 12).map (lt12 s) := by
    refine List.map_congr_left fun k hk => ?_
    unfold lt12
    congr 1
    omega
  rw [e] at k9
  have : (List.range n).map (lt12 s) = ((List.range 12).map (lt12 s)).take n := by
    rw [← List.map_take, List.take_range, Nat.min_eq_left hn]
  rw [this]
  exact List.Sublist.nodup (List.take_sublist _ _) k9
theorem lt12_ne (s : Int) (k : Nat) : lt12 s k ≠ some 122 ∧ lt12 s k ≠ some 120 := ⟨fun e => by
  have := List.mem_of_getElem? e
  revert this
  decide, fun e => by
  have := List.mem_of_getElem? e
  revert this
  decide⟩
/-- the names drawn -/
structure Drawn (s : Int) (n : Nat) (zs : List Str) : Prop where
  nam : ∀ z ∈ zs, Nam z
  hd : zs.map hd = (List.range n).map (lt12 s)
theorem Drawn.len {s : Int} {n : Nat} {zs : List Str} (h : Drawn s n zs) : zs.length = n := by
  have := congrArg List.length h.hd
  simpa using this
theorem Drawn.good {s : Int} {n : Nat} {zs : List Str} (h : Drawn s n zs) (hn : n ≤ 12) : GoodN zs := by
  refine ⟨⟨h.nam, ?_⟩, by have := h.len; omega⟩
  have n1 : (zs.map K80.hd).Nodup := by rw [h.hd]; exact lt12_nodup s n hn
  exact List.Pairwise.of_map K80.hd (fun a b hab e => hab (by rw [e])) n1
theorem Drawn.no {s : Int} {n : Nat} {zs : List Str} (h : Drawn s n zs) : ("x" : Str) ∉ zs ∧ ("zz" : Str) ∉ zs := by
  have key : ∀ (z : Str), z ∈ zs → ∃ k, K80.hd z = lt12 s k := fun z hz => by
    have h1 : K80.hd z ∈ zs.map K80.hd := List.mem_map_of_mem hz
    rw [h.hd] at h1
    obtain ⟨k, _, e2⟩ := List.mem_map.mp h1
    exact ⟨k, e2.symm⟩
  constructor
  · intro q
    obtain ⟨k, e⟩ := key _ q
    have e3 : K80.hd ("x" : Str) = some 120 := by decide +kernel
    rw [e3] at e
    exact (lt12_ne s k).2 e.symm
  · intro q
    obtain ⟨k, e⟩ := key _ q
    have e3 : K80.hd ("zz" : Str) = some 122 := by decide +kernel
    rw [e3] at e
    exact (lt12_ne s k).1 e.symm
theorem add_nm {c : Nat} (h : letC c = true) (t : Int) (h0 : 0 ≤ t) (h5 : t < 5) : dAdd (.str ⟨#[c]⟩) (.str (L2.cutS "3r0t" none (some t))) = some (.v (.str (nmS c t))) := by
  rw [cut_t t h0 h5, x_addZ, if_pos]
  · rfl
  · have : (Ts.take t.toNat).length ≤ 4 := by rw [List.length_take]; simp [Ts]; omega
    show 1 + (Ts.take t.toNat).length ≤ _
    omega
theorem s_fount (k s t : Int) (k0 : 0 ≤ k) (s0 : 0 ≤ s) (h0 : 0 ≤ t) (h5 : t < 5) : ∃ z, Nam z ∧ hd z = lt12 s k.toNat ∧ m__law_fount [.int k, .int s, .int t] = .ok (.v (.str z)) := by
  obtain ⟨c, g1, g2, g3⟩ := ls_at ((k + s) % 12) (by omega) (by omega)
  have a := add_nm g3 t h0 h5
  refine ⟨nmS c t, nm_nam g3 t, ?_, ?_⟩
  · rw [hd_nm, lt12, ← g1, show ((k.toNat : Nat) : Int) = k by omega]
  · have l1 : (Str.ofString "mbyacwfkdhug").length ≤ 16777216 := by decide +kernel
    have l2 : (Str.ofString "3r0t").length ≤ 16777216 := by decide +kernel
    simp [-x_addZ, m__law_fount, b__law_fount, g2, a, l1, l2]
end K80

namespace K80
open PL PySem Std
open FC (Jar)
theorem pick6 (d : Int) (h0 : 0 ≤ d) (h : d < 6) : ∃ n : Nat, n ≤ 6 ∧ L2.atI [D.int 0, D.int 1, D.int 2, D.int 2, D.int 3, D.int 6] d = some (.int (n : Int)) := by
  have : d = 0 ∨ d = 1 ∨ d = 2 ∨ d = 3 ∨ d = 4 ∨ d = 5 := by omega
  rcases this with rfl | rfl | rfl | rfl | rfl | rfl
  · exact ⟨0, by decide, by simp⟩
  · exact ⟨1, by decide, by simp⟩
  · exact ⟨2, by decide, by simp⟩
  · exact ⟨2, by decide, by simp⟩
  · exact ⟨3, by decide, by simp⟩
  · exact ⟨6, by decide, by rw [atI_pos (by decide)]; rfl⟩
theorem free_len {zs ms : List Str} (hz : zs.Nodup) (hm : ms.Nodup) (hs : ∀ z ∈ ms, z ∈ zs) (hl : ms.length < zs.length) : 0 < (zs.filter fun z => !decide (z ∈ ms)).length := by
  rcases Nat.eq_zero_or_pos (zs.filter fun z => !decide (z ∈ ms)).length with h | h
  · have h := List.length_eq_zero_iff.mp h
    have all : ∀ z ∈ zs, z ∈ ms := fun z hz => by
      have := List.filter_eq_nil_iff.mp h z hz
      simpa using this
    have p : zs.Perm ms := by
      rw [List.perm_ext_iff_of_nodup hz hm]
      exact fun a => ⟨all a, hs a⟩
    have := p.length_eq
    omega
  · exact h
def s6 (ns : List Int) (a1 : Option S) (zs : List Str) (a3 a5 : Option S) (kp : Int) (bs : List Int) (rs : List Ro) (v9 v10 v11 v12 v13 v14 v16 : Option S) : Rho :=
  [some (.v (.scr ns)), a1, some (.v (.int (zs.length : Int))), a3, some (.v (.tup (zs.map .str))), a5, some (.v (.int kp)), some (.o (.lst (bs.map .int))), some (.o (.lst (rs.map rD))), v9, v10, v11, v12, v13, v14, none, v16, none]
/-- the members of a row -/
def JM (ns : List Int) (a1 : Option S) (zs : List Str) (a3 a5 : Option S) (kp : Int) (bs : List Int) (rs : List Ro) (v9 v11 v14 : Option S) (i : Nat) (ρ : Rho) : Prop :=
  ∃ (ms : List Str) (j : D) (v13 v16 : Option S), ms.Nodup ∧ (∀ z ∈ ms, z ∈ zs) ∧ ms.length = i ∧ Jar j ∧ ρ = s6 ns a1 zs a3 a5 kp bs rs v9 (some (.o j)) v11 (some (.o (.lst (ms.map .str)))) v13 v14 v16
theorem mem_turn {zs : List Str} (hz : GoodN zs) (ns : List Int) (a1 a3 a5 : Option S) (kp : Int) (bs : List Int) (rs : List Ro) (v9 v11 v14 : Option S) (i : Nat) (hi : i < zs.length) (ms : List Str) (hn : ms.Nodup) (hs : ∀ z ∈ ms, z ∈ zs) (hl : ms.length = i) (j : D) (hj : Jar j) (v16 : Option S) :
    Ev (b__law_nicks_f4 (s6 ns a1 zs a3 a5 kp bs rs v9 (some (.o j)) v11 (some (.o (.lst (ms.map .str)))) (some (.v (.int (i : Int)))) v14 v16)) (fun r => ∃ ρ, r = .next ρ ∧ JM ns a1 zs a3 a5 kp bs rs v9 v11 v14 (i + 1) ρ) := by
  have hL := hz.len
  have fl := free_len hz.n.nd hn hs (by omega)
  have fl2 : (zs.filter fun z => !decide (z ∈ ms)).length ≤ zs.length := List.length_filter_le ..
  have hok : ∀ z ∈ ms, sOk z = true := fun z q => ok_nms hz.n z (hs z q)
  simp only [b__law_nicks_f4, s6]
  simp [x_eLc]
  refine lc_v (h := D.str) zs (fun z => !decide (z ∈ ms)) D.str rfl (by omega) (fun z hzz => ?_) ?_
  · have i1 := in_strsL (ok_nms hz.n z hzz) hok
    by_cases q : z ∈ ms <;> simp [i1, q, b__law_nicks_c3]
  · generalize hF : zs.filter (fun z => !decide (z ∈ ms)) = F at fl fl2 ⊢
    obtain ⟨d, j', hj', d0, d1, e⟩ := s_draw hj (F.length : Int) (by omega) (by omega)
    obtain ⟨z, g, m⟩ := atI_ex (xs := F) d0 d1
    have g := atI_map' D.str g
    have hml : ms.length < 16777216 := by omega
    have mz : z ∈ zs ∧ z ∉ ms := by
      rw [← hF] at m
      simpa using m
    simp [e, g, hml]
    refine ⟨ms ++ [z], j', some (.v (.int (i : Int))), some (.o (.lst (F.map .str))), ?_, ?_, by simp; omega, hj', ?_⟩
    · rw [List.nodup_append]
      refine ⟨hn, by simp, fun a ha b hb => ?_⟩
      simp at hb
      subst hb
      intro q
      subst q
      exact mz.2 ha
    · intro y hy
      rcases List.mem_append.mp hy with q | q
      · exact hs y q
      · cases List.mem_singleton.mp q; exact mz.1
    · simp [s6]
/-- the rest of a row's turn: its parity -/
def b_P : Sx := sSeq (sSet [] 14 (eCall1 [] 2 0 (fun ds => noX (m__law_draw ds)) (aCons (eVar 10) (aCons (eC (.int 2)) (aNil))))) (sSeq (sIf (t2 dGt (eVar 6) (eC (.int 0))) (sSet [] 14 (e2 dMod (eB dSum (aCons (eLc [] [17] (iRg1 (aCons (eVar 2) (aNil))) (gNm [] 17) (t2 dIn (e2 dIx (eVar 4) (eVar 17)) (eVar 12)) b__law_nicks_c5) (aNil))) (eC (.int 2)))) (sNil)) (sSeq (sIf (tAnd (t2 dEq (eVar 6) (eC (.int 2))) (t2 dEq (eCall1 [] 2 0 (fun ds => noX (m__law_draw ds)) (aCons (eVar 10) (aCons (eC (.int 8)) (aNil)))) (eC (.int 0)))) (sSet [] 14 (e2 dSub (eC (.int 1)) (eVar 14))) (sNil)) (sEx (eMl [] 8 mAppend (aCons (eTup [] (aCons (eB dTup1 (aCons (eVar 12) (aNil))) (aCons (eVar 14) (aNil)))) (aNil))))))
def JR (ns : List Int) (a1 : Option S) (zs : List Str) (a3 a5 : Option S) (kp : Int) (bs : List Int) (i : Nat) (ρ : Rho) : Prop :=
  ∃ (rs : List Ro) (v9 v10 v11 v12 v13 v14 v16 : Option S), (∀ r ∈ rs, GoodR zs r) ∧ rs.length = i ∧ ρ = s6 ns a1 zs a3 a5 kp bs rs v9 v10 v11 v12 v13 v14 v16
theorem par_turn {zs : List Str} (hz : GoodN zs) (ns : List Int) (a1 a3 a5 : Option S) (kp : Int) (bs : List Int) (hb : bs.length = zs.length) (rs : List Ro) (hr : ∀ r ∈ rs, GoodR zs r) (hl : rs.length < 100) (v9 v11 v13 v14 v16 : Option S) (ms : List Str) (hn : ms.Nodup) (hs : ∀ z ∈ ms, z ∈ zs) (h6 : ms.length ≤ 6) (j : D) (hj : Jar j) :
    Ev (b_P (s6 ns a1 zs a3 a5 kp bs rs v9 (some (.o j)) v11 (some (.o (.lst (ms.map .str)))) v13 v14 v16)) (fun r => ∃ ρ, r = .next ρ ∧ JR ns a1 zs a3 a5 kp bs (rs.length + 1) ρ) := by
  have hL := hz.len
  have hok : ∀ z ∈ ms, sOk z = true := fun z q => ok_nms hz.n z (hs z q)
  have x1 := x_int1' (zs.length : Int) (by omega)
  have hl' : rs.length < 16777216 := by omega
  obtain ⟨nk, rfl⟩ := exists_nk zs bs hz.n.nd hb
  have fin : ∀ (p : Int) (j : D), p = 0 ∨ p = 1 → JR ns a1 zs a3 a5 kp (zs.map nk) (rs.length + 1) [some (.v (.scr ns)), a1, some (.v (.int (zs.length : Int))), a3, some (.v (.tup (zs.map .str))), a5, some (.v (.int kp)), some (.o (.lst (zs.map (D.int ∘ nk)))), some (.o (.lst (rs.map rD ++ [.tup [.tup (ms.map .str), .int p]]))), v9, some (.o j), v11, some (.o (.lst (ms.map .str))), v13, some (.v (.int p)), none, v16, none] := fun p j hp =>
    ⟨rs ++ [⟨ms, p⟩], v9, some (.o j), v11, some (.o (.lst (ms.map .str))), v13, some (.v (.int p)), v16, fun r hq => by
      rcases List.mem_append.mp hq with q | q
      · exact hr r q
      · cases List.mem_singleton.mp q; exact ⟨hn, hs, h6, hp⟩, by simp, by simp [s6, rD]⟩
  obtain ⟨d, j1, hj1, d0, d1, e1⟩ := s_draw hj 2 (by decide) (by decide)
  obtain ⟨d2, j2, hj2, d20, d21, e2⟩ := s_draw hj1 8 (by decide) (by decide)
  simp only [b_P, s6]
  by_cases k0 : 0 < kp
  · simp [e1, k0, x_eLc, x1]
    refine lc_v (List.range zs.length) (fun k => decide (zs.getD k "" ∈ ms)) (fun k => .int (nk (zs.getD k ""))) (h := fun k : Nat => D.int (0 + (k : Int))) rfl (by simp; omega) (fun k hk => ?_) ?_
    · have hk : k < zs.length := by simpa using hk
      have a1 := at_zs D.str zs k hk
      have a2 := at_zs (D.int ∘ nk) zs k hk
      have hmz : zs.getD k "" ∈ zs := by
        rw [List.getD_eq_getElem?_getD, List.getElem?_eq_getElem hk]; exact List.getElem_mem hk
      generalize zs.getD k "" = z at a1 a2 hmz ⊢
      have i1 := in_strsL (ok_nms hz.n z hmz) hok
      by_cases q : z ∈ ms <;> simp [a1, i1, q, b__law_nicks_c5, a2]
    · generalize ((List.range zs.length).filter fun k => decide (zs.getD k "" ∈ ms)) = F
      simp [ints_map]
      generalize List.sum (α := Int) _ = t
      have hp : t % 2 = 0 ∨ t % 2 = 1 := by omega
      by_cases k2 : kp = 2
      · by_cases q : d2 = 0
        · simp [k2, e2, q, hl']
          rw [k2] at fin
          exact fin _ j2 (by omega)
        · simp [k2, e2, q, hl']
          rw [k2] at fin
          exact fin _ j2 hp
      · simp [k2, hl']
        exact fin _ j1 hp
  · have k2 : ¬ kp = 2 := by omega
    simp [e1, k0, k2, hl']
    exact fin d j1 (by omega)
end K80

namespace K80
open PL PySem Std
open FC (Jar)
theorem f6_turn {zs : List Str} (hz : GoodN zs) (ns : List Int) (a1 a3 a5 : Option S) (kp : Int) (bs : List Int) (hb : bs.length = zs.length) (i : Nat) (hi : i < 24) (ρ : Rho) (h : JR ns a1 zs a3 a5 kp bs i ρ) :
    Ev (b__law_nicks_f6 (ρ.set 9 (some (.v (.int (i : Int)))))) (fun r => ∃ ρ, r = .next ρ ∧ JR ns a1 zs a3 a5 kp bs (i + 1) ρ) := by
  obtain ⟨rs, v9, v10, v11, v12, v13, v14, v16, hr, hl, rfl⟩ := h
  subst hl
  have hL := hz.len
  obtain ⟨j, hj, ej⟩ := s_jar ns (1 + (rs.length : Int)) (by omega) (by omega)
  obtain ⟨d, j1, hj1, d0, d1, e1⟩ := s_draw hj 6 (by decide) (by decide)
  obtain ⟨w, w6, g⟩ := pick6 d d0 d1
  have rest := fun (v9 v11 v13 v14 v16 : Option S) (ms : List Str) (hn : ms.Nodup) (hs : ∀ z ∈ ms, z ∈ zs) (h6 : ms.length ≤ 6) (j : D) (hj : Jar j) => par_turn hz ns a1 a3 a5 kp bs hb rs hr (by omega) v9 v11 v13 v14 v16 ms hn hs h6 j hj
  simp only [b__law_nicks_f6]
  rw [← b_P]
  generalize b_P = TT at rest
  simp [s6, ej, e1, g]
  have hmin : ∃ m : Nat, m ≤ zs.length ∧ m ≤ 6 ∧ dMin [.int (w : Int), .int (zs.length : Int)] = some (.v (.int (m : Int))) := by
    by_cases q : w ≤ zs.length
    · exact ⟨w, q, w6, by simp; omega⟩
    · exact ⟨zs.length, Nat.le_refl _, by omega, by simp; omega⟩
  obtain ⟨m, m1, m2, em⟩ := hmin
  have x1 := x_int1' (m : Int) (by omega)
  simp at em
  simp [em, x1]
  refine rg_v (J := JM ns a1 zs a3 a5 kp bs rs (some (.v (.int (rs.length : Int)))) (some (.v (.int (w : Int)))) v14) ⟨[], j1, v13, v16, by simp, by simp, rfl, hj1, rfl⟩ ?_ ?_
  · rintro k _ hk ⟨ms, j2, v13, v16, hn, hs, hml, hj2, rfl⟩
    obtain ⟨r, e, ρ', rfl, h2⟩ := mem_turn hz ns a1 a3 a5 kp bs rs (some (.v (.int (rs.length : Int)))) (some (.v (.int (w : Int)))) v14 k (by omega) ms hn hs hml j2 hj2 v16
    simp only [s6] at e
    simp [s6, e]
    exact h2
  · rintro _ ⟨ms, j2, v13, v16, hn, hs, hml, hj2, rfl⟩
    have := rest (some (.v (.int (rs.length : Int)))) (some (.v (.int (w : Int)))) v13 v14 v16 ms hn hs (by omega) j2 hj2
    obtain ⟨r, e, ρ', rfl, h2⟩ := this
    simp [e]
    exact h2
end K80

namespace K80
open PL PySem Std
open FC (Jar)
/-- the part of _law_nicks behind the names -/
def b_N : Sx := sSeq (sSet [] 5 (e2 dIx (eLst [] (aCons (eCall1 [] 2 0 (fun ds => noX (m__law_draw ds)) (aCons (eVar 1) (aCons (eC (.int 6)) (aNil)))) (aCons (eCall1 [] 2 0 (fun ds => noX (m__law_draw ds)) (aCons (eVar 1) (aCons (eC (.int 25)) (aNil)))) (aCons (eVar 2) (aCons (eC (.int 24)) (aNil)))))) (eCall1 [] 2 0 (fun ds => noX (m__law_draw ds)) (aCons (eVar 1) (aCons (eC (.int 4)) (aNil)))))) (sSeq (sSet [] 6 (eCall1 [] 2 0 (fun ds => noX (m__law_draw ds)) (aCons (eVar 1) (aCons (eC (.int 3)) (aNil))))) (sSeq (sSet [] 7 (eLc [] [15] (iVal [] (eVar 4)) (gNm [] 15) (tsNo) b__law_nicks_c2)) (sSeq (sSet [] 8 (eLst [] (aNil))) (sSeq (sFor (iRg1 (aCons (eVar 5) (aNil))) (gNm [] 9) b__law_nicks_f6) (sRet [] (eTup [] (aCons (eVar 4) (aCons (eB dTup1 (aCons (eVar 8) (aNil))) (aNil)))))))))
theorem pick12 (d : Int) (h0 : 0 ≤ d) (h : d < 12) : ∃ n : Nat, n ≤ 12 ∧ L2.atI [D.int 12, D.int 0, D.int 1, D.int 2, D.int 3, D.int 4, D.int 5, D.int 6, D.int 7, D.int 8, D.int 11, D.int 5] d = some (.int (n : Int)) := by
  rw [atI_pos h0]
  have key : ∀ k : Nat, k < 12 → [12, 0, 1, 2, 3, 4, 5, 6, 7, 8, 11, 5][k]?.isSome = true ∧ ∀ n, [12, 0, 1, 2, 3, 4, 5, 6, 7, 8, 11, 5][k]? = some n → n ≤ 12 := by decide
  obtain ⟨k1, k2⟩ := key d.toNat (by omega)
  obtain ⟨n, e⟩ := Option.isSome_iff_exists.mp k1
  refine ⟨n, k2 n e, ?_⟩
  have : ([12, 0, 1, 2, 3, 4, 5, 6, 7, 8, 11, 5].map fun n : Nat => D.int (n : Int))[d.toNat]? = some (.int (n : Int)) := by rw [List.getElem?_map, e]; rfl
  exact this
theorem pick4 (d d1 d2 : Int) (n : Nat) (hn : n ≤ 12) (a : 0 ≤ d1 ∧ d1 < 6) (b : 0 ≤ d2 ∧ d2 < 25) (h0 : 0 ≤ d) (h : d < 4) : ∃ c : Nat, c ≤ 24 ∧ L2.atI [D.int d1, D.int d2, D.int (n : Int), D.int 24] d = some (.int (c : Int)) := by
  have : d = 0 ∨ d = 1 ∨ d = 2 ∨ d = 3 := by omega
  rcases this with rfl | rfl | rfl | rfl
  · exact ⟨d1.toNat, by omega, by simp; omega⟩
  · exact ⟨d2.toNat, by omega, by simp; omega⟩
  · exact ⟨n, by omega, by simp⟩
  · exact ⟨24, by omega, by simp⟩
/-- a drawn subject -/
def Sub (d : D) : Prop := ∃ (zs : List Str) (rs : List Ro), GoodN zs ∧ ("x" : Str) ∉ zs ∧ ("zz" : Str) ∉ zs ∧ (∀ r ∈ rs, GoodR zs r) ∧ rs.length ≤ 24 ∧ d = sD zs (rs.map rD)
def JB (ns : List Int) (n : Nat) (s : Int) (zs : List Str) (v5 v6 : Option S) (i : Nat) (acc : List D) (ρ : Rho) : Prop :=
  ∃ (bs : List Int) (j : D), bs.length = i ∧ Jar j ∧ acc = bs.map .int ∧ ρ = [some (.v (.scr ns)), some (.o j), some (.v (.int (n : Int))), some (.v (.int s)), some (.v (.tup (zs.map .str))), v5, v6, none, none, none, none, none, none, none, none, none, none, none]
theorem s_N (ns : List Int) (n : Nat) (hn : n ≤ 12) (s : Int) (zs : List Str) (hd : Drawn s n zs) (j : D) (hj : Jar j) :
    Ev (b_N [some (.v (.scr ns)), some (.o j), some (.v (.int (n : Int))), some (.v (.int s)), some (.v (.tup (zs.map .str))), none, none, none, none, none, none, none, none, none, none, none, none, none]) (fun r => ∃ d ρ, Sub d ∧ r = .ret (.v d) ρ) := by
  have hz := hd.good hn
  obtain ⟨nx, nz⟩ := hd.no
  have hln := hd.len
  subst hln
  obtain ⟨d1, j1, hj1, a1, b1, e1⟩ := s_draw hj 6 (by decide) (by decide)
  obtain ⟨d2, j2, hj2, a2, b2, e2⟩ := s_draw hj1 25 (by decide) (by decide)
  obtain ⟨d3, j3, hj3, a3, b3, e3⟩ := s_draw hj2 4 (by decide) (by decide)
  obtain ⟨kp, j4, hj4, a4, b4, e4⟩ := s_draw hj3 3 (by decide) (by decide)
  obtain ⟨c, c1, g⟩ := pick4 d3 d1 d2 zs.length hn ⟨a1, b1⟩ ⟨a2, b2⟩ a3 b3
  have x1 := x_int1' (c : Int) (by omega)
  simp [b_N, e1, e2, e3, g, e4, x_eLc]
  refine lmE_v (h := D.str) zs (JB ns zs.length s zs (some (.v (.int (c : Int)))) (some (.v (.int kp)))) rfl (by omega) ⟨[], j4, rfl, hj4, rfl, rfl⟩ ?_ ?_
  · rintro i z acc _ hz2 ⟨bs, j, hl, hj, rfl, rfl⟩
    obtain ⟨b, j', hj', b0, b1, e⟩ := s_draw hj 2 (by decide) (by decide)
    simp [b__law_nicks_c2, e]
    exact ⟨bs ++ [b], j', by simp; omega, hj', by simp, by simp⟩
  · rintro acc _ ⟨bs, j, hl, hj, rfl, rfl⟩
    simp [x1]
    refine rg_v (J := JR ns (some (.o j)) zs (some (.v (.int s))) (some (.v (.int (c : Int)))) kp bs) ⟨[], none, none, none, none, none, none, none, by simp, rfl, by simp [s6]⟩ ?_ ?_
    · intro i ρ hi h
      have := f6_turn hz ns (some (.o j)) (some (.v (.int s))) (some (.v (.int (c : Int)))) kp bs hl i (by omega) ρ h
      obtain ⟨r, e, ρ', rfl, h2⟩ := this
      obtain ⟨rs, v9, v10, v11, v12, v13, v14, v16, hr, hl, rfl⟩ := h
      simp [s6] at e
      simp [s6, e]
      exact h2
    · rintro _ ⟨rs, v9, v10, v11, v12, v13, v14, v16, hr, hl, rfl⟩
      simp [s6]
      exact ⟨zs, rs, hz, nx, nz, hr, by omega, rfl⟩
theorem Drawn.snoc {s : Int} {i : Nat} {zs : List Str} (h : Drawn s i zs) {z : Str} (hn : Nam z) (hh : K80.hd z = lt12 s i) : Drawn s (i + 1) (zs ++ [z]) := by
  refine ⟨fun y hy => ?_, ?_⟩
  · rcases List.mem_append.mp hy with q | q
    · exact h.nam y q
    · cases List.mem_singleton.mp q; exact hn
  · rw [List.map_append, h.hd, List.range_succ, List.map_append]
    simp [hh]
def JN (ns : List Int) (n : Nat) (s : Int) (i : Nat) (acc : List D) (ρ : Rho) : Prop :=
  ∃ zs j, Drawn s i zs ∧ acc = zs.map .str ∧ Jar j ∧ ρ = [some (.v (.scr ns)), some (.o j), some (.v (.int (n : Int))), some (.v (.int s)), none, none, none, none, none, none, none, none, none, none, none, none, none, none]
theorem s_nicks (ns : List Int) : ∃ d, Sub d ∧ m__law_nicks [.scr ns] = .ok (.v d) := by
  have key : Ev (m__law_nicks [.scr ns]) (fun s => ∃ d, Sub d ∧ s = .v d) := by
    obtain ⟨j, hj, ej⟩ := s_jar ns 0 (by decide) (by decide)
    obtain ⟨d1, j1, hj1, a1, b1, e1⟩ := s_draw hj 12 (by decide) (by decide)
    obtain ⟨n, n1, g⟩ := pick12 d1 a1 b1
    obtain ⟨s, j2, hj2, s0, s1, e2⟩ := s_draw hj1 12 (by decide) (by decide)
    have x1 := x_int1' (n : Int) (by omega)
    have rest := fun zs hd j hj => s_N ns n n1 s zs hd j hj
    simp only [m__law_nicks, b__law_nicks]
    rw [← b_N]
    generalize b_N = TT at rest
    simp [ej, e1, g, e2, x_eLc, x1]
    refine lmE_v (h := fun k : Nat => D.int (0 + (k : Int))) (List.range n) (JN ns n s) rfl (by simp; omega) ⟨[], j2, ⟨by simp, rfl⟩, rfl, hj2, rfl⟩ ?_ ?_
    · rintro i k acc _ hk ⟨zs, j, hd, rfl, hj, rfl⟩
      have hk : i < n ∧ k = i := by
        have := List.getElem?_eq_some_iff.mp hk
        simp at this
        omega
      obtain ⟨hin, rfl⟩ := hk
      obtain ⟨t, j3, hj3, t0, t1, e3⟩ := s_draw hj 5 (by decide) (by decide)
      obtain ⟨z, nz, hh, e4⟩ := s_fount (k : Int) s t (by omega) s0 t0 t1
      simp [b__law_nicks_c1, e3, e4]
      exact ⟨zs ++ [z], j3, hd.snoc nz (by simpa using hh), by simp, hj3, by simp⟩
    · rintro acc _ ⟨zs, j, hd, rfl, hj, rfl⟩
      rw [List.length_range] at hd
      obtain ⟨r, e, d, ρ, hS, rfl⟩ := rest zs hd j hj
      simp [e]
      exact hS
  obtain ⟨s, e, d, h, rfl⟩ := key
  exact ⟨d, h, e⟩
end K80

namespace K80
open PL PySem Std
open FC (Jar)
theorem s_is (b : Bool) : m__law_is [.bl b, .bl b] = .ok (.v (.bl true)) := by
  simp [m__law_is, b__law_is]
theorem x_keeps (zs : List Str) (hz : GoodN zs) (d : D) (hd : noD d = true) (hk : ∀ ds, d ≠ .ktp ds) (hs : ∀ ds, d = .tup ds → ∀ x ∈ ds, noD x = true) (h : nickB zs.length d = false) : m_keeps [.tup [.tup (zs.map .str), .tup []], d] = .ok (.v (.bl false)) := by
  have c := s_check zs hz [] (by simp) (by simp)
  have k := s_nicking (zs.map .str) d hd hk hs
  simp [sD] at c
  simp [h] at k
  simp [m_keeps, b_keeps, c, k]
def badBs (bs : List Int) : List D := [.lst (bs.map .int), .tup (bs.map .int ++ [.int 0]), .non, .int 0, .tup ((bs.drop 1).map .int ++ [.int 2]), .tup ((bs.drop 1).map .int ++ [.bl true]), .tup ((bs.drop 1).map .int ++ [.int (-2)])]
theorem badBs_bad (bs : List Int) (n : Nat) (h : bs.length = n) (d : D) (hd : d ∈ badBs bs) : noD d = true ∧ (∀ ds, d ≠ .ktp ds) ∧ (∀ ds, d = .tup ds → ∀ x ∈ ds, noD x = true) ∧ nickB n d = false := by
  simp only [badBs, List.mem_cons, List.not_mem_nil, or_false] at hd
  have all : ∀ (xs : List Int) (y : D), noD y = true → ∀ ds, D.tup (xs.map .int ++ [y]) = .tup ds → ∀ x ∈ ds, noD x = true := fun xs y hy ds e x hx => by
    cases e
    rcases List.mem_append.mp hx with q | q
    · obtain ⟨i, _, rfl⟩ := List.mem_map.mp q; rfl
    · cases List.mem_singleton.mp q; exact hy
  rcases hd with rfl | rfl | rfl | rfl | rfl | rfl | rfl
  · exact ⟨rfl, (fun _ h => by cases h), (fun _ h => by cases h), rfl⟩
  · exact ⟨rfl, (fun _ h => by cases h), all _ _ rfl, by simp [nickB, h]⟩
  · exact ⟨rfl, (fun _ h => by cases h), (fun _ h => by cases h), rfl⟩
  · exact ⟨rfl, (fun _ h => by cases h), (fun _ h => by cases h), rfl⟩
  · exact ⟨rfl, (fun _ h => by cases h), all _ _ rfl, by simp [nickB]⟩
  · exact ⟨rfl, (fun _ h => by cases h), all _ _ rfl, by simp [nickB]⟩
  · exact ⟨rfl, (fun _ h => by cases h), all _ _ rfl, by simp [nickB]⟩
def sL (ns : List Int) (zs : List Str) (rs : List Ro) (j : D) (v3 v4 v5 v6 v7 v10 v11 : Option S) : Rho :=
  [some (.v (.scr ns)), some (.v (sD zs (rs.map rD))), some (.o j), v3, v4, v5, v6, v7, some (.v (.tup (zs.map .str))), some (.v (.tup (rs.map rD))), v10, v11, none]
def JL (ns : List Int) (zs : List Str) (rs : List Ro) (ρ : Rho) : Prop := ∃ j v3 v5 v10 v11, Jar j ∧ ρ = sL ns zs rs j v3 none v5 none none v10 v11
def JQ (ns : List Int) (zs : List Str) (rs : List Ro) (v3 v5 v10 v11 : Option S) (i : Nat) (acc : List D) (ρ : Rho) : Prop :=
  ∃ (bs : List Int) (j : D), bs.length = i ∧ (∀ b ∈ bs, 0 ≤ b ∧ b ≤ 1) ∧ Jar j ∧ acc = bs.map .int ∧ ρ = sL ns zs rs j v3 none v5 none none v10 v11
theorem f3_turn (ns : List Int) (zs : List Str) (hz : GoodN zs) (rs : List Ro) (hr : ∀ r ∈ rs, GoodR zs r) (hl : rs.length ≤ 24) (j : D) (hj : Jar j) (v3 v5 v10 v11 : Option S) :
    Ev (b_law_f3 (sL ns zs rs j v3 none v5 none none v10 v11)) (fun r => ∃ ρ, r = .next ρ ∧ JL ns zs rs ρ) := by
  have hL := hz.len
  simp only [b_law_f3, sL]
  simp [x_eLc]
  refine lmE_v (h := D.str) zs (JQ ns zs rs v3 v5 v10 v11) rfl (by omega) ⟨[], j, rfl, by simp, hj, rfl, rfl⟩ ?_ ?_
  · rintro i z acc _ hz2 ⟨bs, j, hl, hb, hj, rfl, rfl⟩
    obtain ⟨b, j', hj', b0, b1, e⟩ := s_draw hj 2 (by decide) (by decide)
    simp [b_law_c1, e, sL]
    refine ⟨bs ++ [b], j', by simp; omega, fun x hx => ?_, hj', by simp, by simp [sL]⟩
    rcases List.mem_append.mp hx with q | q
    · exact hb x q
    · cases List.mem_singleton.mp q; omega
  · rintro acc _ ⟨bs, j, hbl, hb, hj, rfl, rfl⟩
    have bb := badBs_bad bs zs.length hbl
    have hbd : bs.length + 1 ≤ 16777216 := by omega
    have hbd2 : bs.length ≤ 16777216 := by omega
    obtain ⟨d, j', hj', d0, d1, e⟩ := s_draw hj 4 (by decide) (by decide)
    obtain ⟨nk, e2⟩ := exists_nk zs bs hz.n.nd hbl
    have hn : ∀ z ∈ zs, 0 ≤ nk z ∧ nk z ≤ 1 := fun z q => hb _ (by rw [e2]; exact List.mem_map_of_mem q)
    have eb : bD zs nk = .tup (bs.map .int) := by rw [e2, bD, List.map_map]; rfl
    have hr2 : ∀ r ∈ rs.take d.toNat, GoodR zs r := fun r q => hr r (List.mem_of_mem_take q)
    have k1 := s_keeps zs hz rs hr hl nk hn
    have k2 := s_lkeeps zs hz rs hr nk
    have k3 := s_keeps zs hz (rs.take d.toNat) hr2 (by simp; omega) nk hn
    have k4 := s_lkeeps zs hz (rs.take d.toNat) hr2 nk
    rw [eb] at k1 k2 k3 k4
    simp only [sD] at k1 k3
    have i1 := s_is (rs.all (kept nk))
    have i2 := s_is ((rs.take d.toNat).all (kept nk))
    generalize rs.all (kept nk) = B1 at *
    generalize (rs.take d.toNat).all (kept nk) = B2 at *
    rw [List.map_take] at k3 k4
    simp [sL, sD, k1, k2, i1, e, cutG_to, d0, k3, k4, i2, cutG_from, hbd, hbd2]
    refine lp_v (badBs bs) (fun _ ρ => JL ns zs rs ρ) (h := id) ?_ ⟨j', v3, v5, _, _, hj', rfl⟩ ?_ ?_
    · simp [badBs]
    · rintro i x _ hx ⟨j, v3, v5, v10, v11, hj, rfl⟩
      obtain ⟨b1, b2, b3, b4⟩ := bb x (List.mem_of_getElem? hx)
      have k := x_keeps zs hz x b1 b2 b3 b4
      simp [sL, sD, b_law_f2, k]
      exact ⟨j, v3, _, v10, v11, hj, rfl⟩
    · rintro _ h
      simp
      exact h
end K80

namespace K80
open PL PySem Std
open FC (Jar)
theorem same_due (ps : List Pa) (hl : ps.length < 100) : m__law_same [.tup (ps.map duD), .tup (ps.map duD)] = .ok (.v (.bl true)) := by
  obtain ⟨n, h1, h2⟩ := pszL_le (c := 5) (ds := ps.map duD) (by
    intro d hd
    obtain ⟨p, _, rfl⟩ := List.mem_map.mp hd
    by_cases q : p.a = p.b
    · exact ⟨3, by simp [duD, q], by decide⟩
    · exact ⟨5, by simp [duD, q], by decide⟩)
  rw [List.length_map] at h2
  exact s_same _ (n := n + 1) (by simp [h1]) (by omega)
theorem ab_tup : isT .tuple (.str "ab") = some false := rfl
theorem wrongs_len (zs : List Str) (rs : List Ro) : (wrongs zs rs).length = 22 := by simp [wrongs, wrong1, wrong2, wrong3, wrong4, wrong5]
def JA (ns : List Int) (zs : List Str) (rs : List Ro) (v4 v6 : Option S) (ρ : Rho) : Prop := ∃ j v3 v5 v7 v10 v11, ρ = sL ns zs rs j v3 v4 v5 v6 v7 v10 v11
theorem plain (ns : List Int) (hl : ns.length ≤ 63) : m_law [.scr ns] = .ok (.v (.bl true)) := by
  obtain ⟨d, ⟨zs, rs, hz, nx, nz, hr, hrl, rfl⟩, en⟩ := s_nicks ns
  have hL := hz.len
  have c1 := s_check zs hz rs hr hrl
  have c2 : m_check_nicks [.tup [.tup ((zs.take 11).map .str ++ [.str "zz"]), .tup (List.replicate 24 [D.tup [.tup [], .int 1]]).flatten]] = .ok (.v .non) := by
    have n := snoc_nms (take_nms hz.n 11) nZ (fun q => nz (List.mem_of_mem_take q))
    have := s_check (zs.take 11 ++ [("zz" : Str)]) ⟨n, by simp; omega⟩ (List.replicate 24 ⟨[], 1⟩) (fun r hr => by
      cases (List.eq_of_mem_replicate hr)
      exact ⟨by simp, by simp, by simp, .inr rfl⟩) (by simp)
    simpa [sD, rD] using this
  have h11 : min 11 zs.length + 1 ≤ 16777216 := by omega
  have h12 : min 11 zs.length ≤ 16777215 := by omega
  obtain ⟨j, hj, ej⟩ := s_jar ns 25 (by decide) (by decide)
  have x8 := x_int1' 8 (by omega)
  obtain ⟨ps, gp, hpl, ep⟩ := s_pairs ns zs hz
  have er := s_rows ps gp hpl
  have es := same_due ps hpl
  have hp1 : ps.length + 1 ≤ 16777216 := by omega
  have hp2 : 1 + ps.length ≤ 16777216 := by omega
  have r1 := refused (.lst (ps.map pD)) (x_rows0 _ rfl)
  have r2 := refused (.str "ab") (x_rows0 _ rfl)
  have ew := s_wrong zs hz rs hrl
  have wb := wrongs_bad zs hz nx nz rs hr
  have wl := wrongs_len zs rs
  have x22 := x_int1' 22 (by omega)
  simp at c2
  simp only [m_law, b_law]
  simp only [sD] at en c1
  generalize (8 : Int) = N8 at x8
  simp [en, c1, cutG_to, h11, h12, c2, ej, x8]
  refine rg_eq (fun _ ρ => JL ns zs rs ρ) ⟨j, _, _, _, _, hj, rfl⟩ ?_ ?_
  · rintro i _ hi ⟨j, v3, v5, v10, v11, hj, rfl⟩
    obtain ⟨r, e, ρ, rfl, h2⟩ := f3_turn ns zs hz rs hr hrl j hj (some (.v (.int (i : Int)))) v5 v10 v11
    simp [sL] at e
    simp [sL, e]
    exact h2
  rintro _ ⟨j, v3, v5, v10, v11, hj, rfl⟩
  simp [sL, sD, ep, er, es]
  refine lp_eq badPs (fun _ ρ => JA ns zs rs (some (.o (.lst [.tup (ps.map pD), .tup (ps.map duD)]))) none ρ) (h := id) (by simp [badPs]) ⟨_, _, _, _, _, _, rfl⟩ ?_ ?_
  · rintro i d _ hd ⟨j, v3, v5, v7, v10, v11, rfl⟩
    have bp := badPs_bad d (List.mem_of_getElem? hd)
    have q1 := refused (.tup (ps.map pD ++ [d])) (x_rows ps gp hpl d bp [])
    have q2 := refused (.tup (d :: ps.map pD)) (x_rows [] (by simp) (by simp) d bp (ps.map pD))
    simp [sL, b_law_f4, hp1, hp2, q1, q2]
    exact ⟨_, _, _, _, _, _, rfl⟩
  rintro _ ⟨j, v3, v5, v7, v10, v11, rfl⟩
  simp [sL, r1, r2, ew]
  generalize wrongs zs rs = W at wb wl
  simp [wl, x22]
  refine rg_eq (fun _ ρ => JA ns zs rs (some (.o (.lst [.tup (ps.map pD), .tup (ps.map duD)]))) (some (.o (.lst W))) ρ) ⟨_, _, _, _, _, _, rfl⟩ ?_ ?_
  · rintro i _ hi ⟨j, v3, v5, v7, v10, v11, rfl⟩
    have g : L2.atI W (i : Int) = some W[i] := atI_ofNat _ _ _ (List.getElem?_eq_getElem (by omega))
    have b := wb W[i] (List.getElem_mem (by omega))
    have q1 := refuses W[i] b 0 (by omega) (by omega)
    have q2 := refuses W[i] b (1 + ((i : Int) + (rs.length : Int)) % 5) (by omega) (by omega)
    simp [sL, b_law_f5, g, q1, q2]
    exact ⟨_, _, _, _, _, _, rfl⟩
  rintro _ ⟨j, v3, v5, v7, v10, v11, rfl⟩
  simp [sL]
end K80

open PySem PySem.W PyProof.Rows
set_option maxRecDepth 100000 in
set_option maxHeartbeats 0 in
theorem PySem.Challenge.cw_typefoundry_k80_nickings_kept_holds : PySem.Challenge.rw_typefoundry_k80_nickings_kept.Holds := by
  w_on; o_law; k_head; (case hw => w_witness2)
  k_fill
  refine L2.walk_of (l := PySem.Challenge.rw_typefoundry_k80_nickings_kept) (n := 63) (k := 7) (x := "script") (CX := fun w => L2.CX PySem.Challenge.pw_typefoundry_k80_nickings_kept w) (sp := fun w => PL.spL _) rfl (by decide) rfl ⟨rfl, by decide, by decide⟩ (fun w h Y => PySem.W.kIn_of Y) ?F (fun _ _ _ _ hl hO hS => PL.spL_of hl hO hS) (fun _ _ _ _ _ z => PL.noCX z)
  case F =>
    intro w mg fa h KX G hmg
    refine' K80.all_mk KX G hmg K80.plain ?g_BadNick ?s_BadNick ?t_BadNick ?e_BadNick ?k_BadNick ?d_BadNick ?x1_BadNick ?x2_BadNick ?x3_BadNick ?x4_BadNick ?xs ?xt ?ct_BadNick_BadNick ?is_ValueError_BadNick ?v_DIGITS ?v_LETTERS ?v_MOST_MEMBERS ?v_MOST_NAMES ?v_MOST_ROWS ?n_ValueError ?n_abs ?n_bool ?n_int ?n_isinstance ?n_len ?n_list ?n_min ?n_range ?n_str ?n_sum ?n_tuple ?n_zip ?a__law_jar ?l__law_jar ?c__law_jar ?k__law_jar ?a__law_draw ?l__law_draw ?c__law_draw ?k__law_draw ?a__law_fount ?l__law_fount ?c__law_fount ?k__law_fount ?a__law_nicks ?l__law_nicks ?c__law_nicks ?k__law_nicks ?a__law_pairs ?l__law_pairs ?c__law_pairs ?k__law_pairs ?a__law_wrong ?l__law_wrong ?c__law_wrong ?k__law_wrong ?a__law_same_one ?l__law_same_one ?c__law_same_one ?k__law_same_one ?a__law_same ?l__law_same ?c__law_same ?k__law_same ?a_is_tuple_of ?l_is_tuple_of ?c_is_tuple_of ?k_is_tuple_of ?a_is_name ?l_is_name ?c_is_name ?k_is_name ?a_is_names ?l_is_names ?c_is_names ?k_is_names ?a_is_whole ?l_is_whole ?c_is_whole ?k_is_whole ?a_is_whole_in ?l_is_whole_in ?c_is_whole_in ?k_is_whole_in ?a_check_nicks ?l_check_nicks ?c_check_nicks ?k_check_nicks ?a__law_is ?l__law_is ?c__law_is ?k__law_is ?a_same_single ?l_same_single ?c_same_single ?k_same_single ?a_same ?l_same ?c_same ?k_same ?a_nick_row ?l_nick_row ?c_nick_row ?k_nick_row ?a_nick_rows ?l_nick_rows ?c_nick_rows ?k_nick_rows ?a__law_pairs_refused ?l__law_pairs_refused ?c__law_pairs_refused ?k__law_pairs_refused ?a_is_nicking ?l_is_nicking ?c_is_nicking ?k_is_nicking ?a_keeps ?l_keeps ?c_keeps ?k_keeps ?a__law_keeps ?l__law_keeps ?c__law_keeps ?k__law_keeps ?a_added ?l_added ?c_added ?k_added ?a_without_leads ?l_without_leads ?c_without_leads ?k_without_leads ?a_last_name ?l_last_name ?c_last_name ?k_last_name ?a_line_of ?l_line_of ?c_line_of ?k_line_of ?a_solved ?l_solved ?c_solved ?k_solved ?a_settle_nicks ?l_settle_nicks ?c_settle_nicks ?k_settle_nicks ?a_is_rising ?l_is_rising ?c_is_rising ?k_is_rising ?a_is_clash ?l_is_clash ?c_is_clash ?k_is_clash ?a_is_answer ?l_is_answer ?c_is_answer ?k_is_answer ?a_upholds_nicks ?l_upholds_nicks ?c_upholds_nicks ?k_upholds_nicks ?a_check_among ?l_check_among ?c_check_among ?k_check_among ?a_in_free_names ?l_in_free_names ?c_in_free_names ?k_in_free_names ?a_told_apart ?l_told_apart ?c_told_apart ?k_told_apart ?a_freedom ?l_freedom ?c_freedom ?k_freedom ?a__law_refuses ?l__law_refuses ?c__law_refuses ?k__law_refuses ?a_law ?l_law ?c_law ?k_law
    (case g_BadNick => k_is)
    (case s_BadNick => k_is)
    (case t_BadNick => k_is)
    (case e_BadNick => k_exc)
    (case k_BadNick => k_is)
    (case d_BadNick => k_is)
    (case x1_BadNick => k_is)
    (case x2_BadNick => k_is)
    (case x3_BadNick => k_is)
    (case x4_BadNick => k_is)
    (case xs => k_is)
    (case xt => k_is)
    (case ct_BadNick_BadNick => k_is)
    (case is_ValueError_BadNick => kit_is)
    (case v_DIGITS => k_is)
    (case v_LETTERS => k_is)
    (case v_MOST_MEMBERS => k_is)
    (case v_MOST_NAMES => k_is)
    (case v_MOST_ROWS => k_is)
    (case n_ValueError => k_is)
    (case n_abs => k_is)
    (case n_bool => k_is)
    (case n_int => k_is)
    (case n_isinstance => k_is)
    (case n_len => k_is)
    (case n_list => k_is)
    (case n_min => k_is)
    (case n_range => k_is)
    (case n_str => k_is)
    (case n_sum => k_is)
    (case n_tuple => k_is)
    (case n_zip => k_is)
    (case a__law_jar => k_is)
    (case l__law_jar => k_is)
    (case c__law_jar => k_is)
    (case k__law_jar => k_is)
    (case a__law_draw => k_is)
    (case l__law_draw => k_is)
    (case c__law_draw => k_is)
    (case k__law_draw => k_is)
    (case a__law_fount => k_is)
    (case l__law_fount => k_is)
    (case c__law_fount => k_is)
    (case k__law_fount => k_is)
    (case a__law_nicks => k_is)
    (case l__law_nicks => k_is)
    (case c__law_nicks => k_is)
    (case k__law_nicks => k_is)
    (case a__law_pairs => k_is)
    (case l__law_pairs => k_is)
    (case c__law_pairs => k_is)
    (case k__law_pairs => k_is)
    (case a__law_wrong => k_is)
    (case l__law_wrong => k_is)
    (case c__law_wrong => k_is)
    (case k__law_wrong => k_is)
    (case a__law_same_one => k_is)
    (case l__law_same_one => k_is)
    (case c__law_same_one => k_is)
    (case k__law_same_one => k_is)
    (case a__law_same => k_is)
    (case l__law_same => k_is)
    (case c__law_same => k_is)
    (case k__law_same => k_is)
    (case a_is_tuple_of => k_is)
    (case l_is_tuple_of => k_is)
    (case c_is_tuple_of => k_is)
    (case k_is_tuple_of => k_is)
    (case a_is_name => k_is)
    (case l_is_name => k_is)
    (case c_is_name => k_is)
    (case k_is_name => k_is)
    (case a_is_names => k_is)
    (case l_is_names => k_is)
    (case c_is_names => k_is)
    (case k_is_names => k_is)
    (case a_is_whole => k_is)
    (case l_is_whole => k_is)
    (case c_is_whole => k_is)
    (case k_is_whole => k_is)
    (case a_is_whole_in => k_is)
    (case l_is_whole_in => k_is)
    (case c_is_whole_in => k_is)
    (case k_is_whole_in => k_is)
    (case a_check_nicks => k_is)
    (case l_check_nicks => k_is)
    (case c_check_nicks => k_is)
    (case k_check_nicks => k_is)
    (case a__law_is => k_is)
    (case l__law_is => k_is)
    (case c__law_is => k_is)
    (case k__law_is => k_is)
    (case a_same_single => k_is)
    (case l_same_single => k_is)
    (case c_same_single => k_is)
    (case k_same_single => k_is)
    (case a_same => k_is)
    (case l_same => k_is)
    (case c_same => k_is)
    (case k_same => k_is)
    (case a_nick_row => k_is)
    (case l_nick_row => k_is)
    (case c_nick_row => k_is)
    (case k_nick_row => k_is)
    (case a_nick_rows => k_is)
    (case l_nick_rows => k_is)
    (case c_nick_rows => k_is)
    (case k_nick_rows => k_is)
    (case a__law_pairs_refused => k_is)
    (case l__law_pairs_refused => k_is)
    (case c__law_pairs_refused => k_is)
    (case k__law_pairs_refused => k_is)
    (case a_is_nicking => k_is)
    (case l_is_nicking => k_is)
    (case c_is_nicking => k_is)
    (case k_is_nicking => k_is)
    (case a_keeps => k_is)
    (case l_keeps => k_is)
    (case c_keeps => k_is)
    (case k_keeps => k_is)
    (case a__law_keeps => k_is)
    (case l__law_keeps => k_is)
    (case c__law_keeps => k_is)
    (case k__law_keeps => k_is)
    (case a_added => k_is)
    (case l_added => k_is)
    (case c_added => k_is)
    (case k_added => k_is)
    (case a_without_leads => k_is)
    (case l_without_leads => k_is)
    (case c_without_leads => k_is)
    (case k_without_leads => k_is)
    (case a_last_name => k_is)
    (case l_last_name => k_is)
    (case c_last_name => k_is)
    (case k_last_name => k_is)
    (case a_line_of => k_is)
    (case l_line_of => k_is)
    (case c_line_of => k_is)
    (case k_line_of => k_is)
    (case a_solved => k_is)
    (case l_solved => k_is)
    (case c_solved => k_is)
    (case k_solved => k_is)
    (case a_settle_nicks => k_is)
    (case l_settle_nicks => k_is)
    (case c_settle_nicks => k_is)
    (case k_settle_nicks => k_is)
    (case a_is_rising => k_is)
    (case l_is_rising => k_is)
    (case c_is_rising => k_is)
    (case k_is_rising => k_is)
    (case a_is_clash => k_is)
    (case l_is_clash => k_is)
    (case c_is_clash => k_is)
    (case k_is_clash => k_is)
    (case a_is_answer => k_is)
    (case l_is_answer => k_is)
    (case c_is_answer => k_is)
    (case k_is_answer => k_is)
    (case a_upholds_nicks => k_is)
    (case l_upholds_nicks => k_is)
    (case c_upholds_nicks => k_is)
    (case k_upholds_nicks => k_is)
    (case a_check_among => k_is)
    (case l_check_among => k_is)
    (case c_check_among => k_is)
    (case k_check_among => k_is)
    (case a_in_free_names => k_is)
    (case l_in_free_names => k_is)
    (case c_in_free_names => k_is)
    (case k_in_free_names => k_is)
    (case a_told_apart => k_is)
    (case l_told_apart => k_is)
    (case c_told_apart => k_is)
    (case k_told_apart => k_is)
    (case a_freedom => k_is)
    (case l_freedom => k_is)
    (case c_freedom => k_is)
    (case k_freedom => k_is)
    (case a__law_refuses => k_is)
    (case l__law_refuses => k_is)
    (case c__law_refuses => k_is)
    (case k__law_refuses => k_is)
    (case a_law => k_is)
    (case l_law => k_is)
    (case c_law => k_is)
    (case k_law => k_is)

