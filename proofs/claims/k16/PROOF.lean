import PyProof.Rows.All
import Wide.All
import OpenK.AllK
import Wide.FinOn
import PyProof.EqAt
import PyProof.EqKinds
import PyProof.TupleCall
import HandS.ForMost
import HandS.ForExc
import HandS.CallSlots
import HandS.Walk
import HandS.Zip
import HandS.IsInst
import HandS.Deep
import HandS.TupAny
import HandS.TupMul
import HandS.Conv
import HandS.SortInts
import HandS.Wide
import PyProof.SeqIndex
import PyProof.P3In
import HandS.StrMore
import HandS.Rev
import HandS.Style
import HandS.WordsExc
import HandS.TryOnly
import HandS.ExcIs
import HandS.Small
import HandS.Flow
import KE.GoesEnum
import HandS.More
import PyProof.TupleOfSeq
import HandS.Gcd
import HandS.Codes
import HandS.DictComp
import KE.DatumOrd
import PySem.Challenge.RW_typefoundry_k16_whole_strikes
set_option Elab.async false
set_option linter.all false
set_option maxRecDepth 100000
set_option maxHeartbeats 4000000
namespace PL
open PySem PySem.Spec PyProof.Rows L2

/-! ### plain values -/
inductive D where
  | non | bl (b : Bool) | int (i : Int) | str (x : Str) | tup (xs : List D) | lst (xs : List D) | dic (t : Bool) (kvs : List (D × D)) | scr (ns : List Int) | ktp (xs : List D)
  deriving Inhabited
/-- what a name holds: a value that never changes; an object of one's own; (of an expression alone) the own object of a slot -/
inductive S where
  | v (d : D) | o (d : D) | b (i : Nat)
abbrev Rho := List (Option S)
inductive Out (α : Type) where
  | ok (a : α) | exc (c : Str) (ρ : Rho) | stuck
def Out.bind {α β : Type} : Out α → (α → Out β) → Out β
  | .ok a, f => f a
  | .exc c ρ, _ => .exc c ρ
  | .stuck, _ => .stuck
instance : Monad Out where
  pure := .ok
  bind := Out.bind
@[simp] theorem bind_ok {α β : Type} (a : α) (f : α → Out β) : (Out.ok a >>= f) = f a := (rfl)
@[simp] theorem bind_exc {α β : Type} (c : Str) (ρ : Rho) (f : α → Out β) : (Out.exc c ρ >>= f) = .exc c ρ := (rfl)
@[simp] theorem bind_stuck {α β : Type} (f : α → Out β) : (Out.stuck >>= f) = .stuck := (rfl)
abbrev Ex := Rho → Out (S × Rho)

def keyD : D → Option Key
  | .int i => some (.inl i)
  | .str x => some (.inr x)
  | _ => none
def keysD : List D → Option (List Key)
  | [] => some []
  | d :: ds => (keyD d).bind fun k => (keysD ds).map (k :: ·)

/-! ### how a heap bears a value -/
/-- a list that never changes -/
def FzL (K : PySem.W.Frag) (H : Hp) (a : Addr) (xs : List V) : Prop := ∃ o, H a = some (.frz o (.lst xs))
theorem FzL.seq {K : PySem.W.Frag} {H : Hp} {a : Addr} {xs : List V} (h : FzL K H a xs) : SqL K H a xs := .inl (.inr h)
/-- a tuple that was made -/
def TpT (K : PySem.W.Frag) (H : Hp) (a : Addr) (xs : List V) : Prop := H a = some (.tup xs)
theorem TpT.of {K : PySem.W.Frag} {H : Hp} {a : Addr} {xs : List V} (h : H a = some (.tup xs)) : TpT K H a xs := h
theorem TpT.seq {K : PySem.W.Frag} {H : Hp} {a : Addr} {xs : List V} (h : TpT K H a xs) : SqT K H a xs := .inl (.inl h)
/-- a tuple of the written part (without a dict) -/
def KtT (K : PySem.W.Frag) (a : Addr) (xs : List V) : Prop :=
  ∃ (o : Obj) (its : Array Value) (n : Nat), K.lookup a = some o ∧ o.dict = none ∧ o.cls = .type "tuple" ∧ o.data = .seq its n ∧ its.size ≤ sizeLine ∧ Vals xs its.toList
theorem KtT.seq {K : PySem.W.Frag} {H : Hp} {a : Addr} {xs : List V} (h : KtT K a xs) : SqT K H a xs := by
  obtain ⟨o, its, n, h1, _, h2⟩ := h
  exact .inr ⟨o, its, n, h1, h2⟩
/-- the script's own list -/
def ScrL (K : PySem.W.Frag) (H : Hp) (a : Addr) (xs : List V) : Prop :=
  (∃ o, H a = some (.frz o (.lst xs))) ∨
    ∃ (o : Obj) (its : Array Value) (n : Nat), K.lookup a = some o ∧ o.cls = .type "list" ∧ o.dict = none ∧ o.data = .seq its n ∧ its.size ≤ sizeLine ∧ Vals xs its.toList
theorem ScrL.seq {K : PySem.W.Frag} {H : Hp} {a : Addr} {xs : List V} (h : ScrL K H a xs) : SqL K H a xs := by
  rcases h with h | h
  · exact .inl (.inr h)
  · exact .inr h
mutual
def Imm (K : PySem.W.Frag) (H : Hp) : D → V → Prop
  | .non, x => x = .non
  | .bl b, x => x = .bl b
  | .int i, x => x = .int i
  | .str z, x => x = .str z
  | .tup ds, x => ∃ a vs, x = .ref a ∧ TpT K H a vs ∧ ImmL K H ds vs
  | .lst ds, x => ∃ a vs, x = .ref a ∧ FzL K H a vs ∧ ImmL K H ds vs
  | .dic false kvs, x => ∃ a o kws, x = .ref a ∧ H a = some (.frz o (.dK kws)) ∧ ImmK K H kvs kws
  | .dic true kvs, x => ∃ a o kws, x = .ref a ∧ H a = some (.frz o (.dT kws)) ∧ ImmT K H kvs kws
  | .scr ns, x => ∃ a, x = .ref a ∧ ScrL K H a (ns.map V.int)
  | .ktp ds, x => ∃ a vs, x = .ref a ∧ KtT K a vs ∧ ImmL K H ds vs
def ImmL (K : PySem.W.Frag) (H : Hp) : List D → List V → Prop
  | [], vs => vs = []
  | d :: ds, vs => ∃ v r, vs = v :: r ∧ Imm K H d v ∧ ImmL K H ds r
def ImmK (K : PySem.W.Frag) (H : Hp) : List (D × D) → List (Key × V) → Prop
  | [], vs => vs = []
  | (k, d) :: ds, vs => ∃ kk v r, vs = (kk, v) :: r ∧ keyD k = some kk ∧ Imm K H d v ∧ ImmK K H ds r
def ImmT (K : PySem.W.Frag) (H : Hp) : List (D × D) → List (List Key × V) → Prop
  | [], vs => vs = []
  | (.tup k, d) :: ds, vs => ∃ kk v r, vs = (kk, v) :: r ∧ keysD k = some kk ∧ Imm K H d v ∧ ImmT K H ds r
  | _ :: _, _ => False
end
/-- things that never change stay -/
def Ext (H H' : Hp) : Prop := ∀ a o, H a = some o → (∀ xs, o = .tup xs → H' a = some o) ∧ ∀ ob u, o = .frz ob u → H' a = some o
theorem Ext.refl (H : Hp) : Ext H H := fun _ _ h => ⟨fun _ _ => h, fun _ _ _ => h⟩
theorem Ext.trans {H H1 H2 : Hp} (a : Ext H H1) (b : Ext H1 H2) : Ext H H2 := fun c o h =>
  ⟨fun xs e => (b c o ((a c o h).1 xs e)).1 xs e, fun ob u e => (b c o ((a c o h).2 ob u e)).2 ob u e⟩
theorem Ext.tup {H H' : Hp} (e : Ext H H') {a : Addr} {xs : List V} (h : H a = some (.tup xs)) : H' a = some (.tup xs) := (e a _ h).1 xs rfl
theorem Ext.frz {H H' : Hp} (e : Ext H H') {a : Addr} {o : Obj} {u : HO} (h : H a = some (.frz o u)) : H' a = some (.frz o u) := (e a _ h).2 o u rfl
theorem Ext.of_same {H H' : Hp} (e : Same H H') : Ext H H' := fun a o h => ⟨fun _ _ => e a o h, fun _ _ _ => e a o h⟩
theorem Ext.sqT {K : PySem.W.Frag} {H H' : Hp} (e : Ext H H') {a : Addr} {xs : List V} (h : TpT K H a xs) : TpT K H' a xs := e.tup h
theorem Ext.fzL {K : PySem.W.Frag} {H H' : Hp} (e : Ext H H') {a : Addr} {xs : List V} (h : FzL K H a xs) : FzL K H' a xs := by
  obtain ⟨o, h⟩ := h
  exact ⟨o, e.frz h⟩
theorem Ext.scrL {K : PySem.W.Frag} {H H' : Hp} (e : Ext H H') {a : Addr} {xs : List V} (h : ScrL K H a xs) : ScrL K H' a xs := by
  rcases h with ⟨o, h⟩ | h
  · exact .inl ⟨o, e.frz h⟩
  · exact .inr h
mutual
theorem Imm.ext {K : PySem.W.Frag} {H H' : Hp} (e : Ext H H') : ∀ (d : D) (x : V), Imm K H d x → Imm K H' d x
  | .non, _, h => h
  | .bl _, _, h => h
  | .int _, _, h => h
  | .str _, _, h => h
  | .tup ds, _, ⟨a, vs, e1, h1, h2⟩ => ⟨a, vs, e1, e.sqT h1, ImmL.ext e ds vs h2⟩
  | .lst ds, _, ⟨a, vs, e1, h1, h2⟩ => ⟨a, vs, e1, e.fzL h1, ImmL.ext e ds vs h2⟩
  | .dic false kvs, _, ⟨a, o, kws, e1, h1, h2⟩ => ⟨a, o, kws, e1, e.frz h1, ImmK.ext e kvs kws h2⟩
  | .dic true kvs, _, ⟨a, o, kws, e1, h1, h2⟩ => ⟨a, o, kws, e1, e.frz h1, ImmT.ext e kvs kws h2⟩
  | .scr ns, _, ⟨a, e1, h⟩ => ⟨a, e1, e.scrL h⟩
  | .ktp ds, _, ⟨a, vs, e1, h1, h2⟩ => ⟨a, vs, e1, h1, ImmL.ext e ds vs h2⟩
theorem ImmL.ext {K : PySem.W.Frag} {H H' : Hp} (e : Ext H H') : ∀ (ds : List D) (vs : List V), ImmL K H ds vs → ImmL K H' ds vs
  | [], _, h => h
  | d :: ds, _, ⟨v, r, e1, h1, h2⟩ => ⟨v, r, e1, Imm.ext e d v h1, ImmL.ext e ds r h2⟩
theorem ImmK.ext {K : PySem.W.Frag} {H H' : Hp} (e : Ext H H') : ∀ (ds : List (D × D)) (vs : List (Key × V)), ImmK K H ds vs → ImmK K H' ds vs
  | [], _, h => h
  | (_, d) :: ds, _, ⟨kk, v, r, e1, h0, h1, h2⟩ => ⟨kk, v, r, e1, h0, Imm.ext e d v h1, ImmK.ext e ds r h2⟩
theorem ImmT.ext {K : PySem.W.Frag} {H H' : Hp} (e : Ext H H') : ∀ (ds : List (D × D)) (vs : List (List Key × V)), ImmT K H ds vs → ImmT K H' ds vs
  | [], _, h => h
  | (.tup _, d) :: ds, _, ⟨kk, v, r, e1, h0, h1, h2⟩ => ⟨kk, v, r, e1, h0, Imm.ext e d v h1, ImmT.ext e ds r h2⟩
  | (.non, _) :: _, _, h => h
  | (.bl _, _) :: _, _, h => h
  | (.int _, _) :: _, _, h => h
  | (.str _, _) :: _, _, h => h
  | (.lst _, _) :: _, _, h => h
  | (.dic _ _, _) :: _, _, h => h
  | (.scr _, _) :: _, _, h => h
  | (.ktp _, _) :: _, _, h => h
end
theorem ImmL.len {K : PySem.W.Frag} {H : Hp} : ∀ {ds : List D} {vs : List V}, ImmL K H ds vs → vs.length = ds.length
  | [], _, h => by cases (show _ = _ from h); rfl
  | d :: ds, _, ⟨v, r, e1, h1, h2⟩ => by rw [e1, List.length_cons, List.length_cons, ImmL.len h2]
theorem ImmL.get {K : PySem.W.Frag} {H : Hp} : ∀ {ds : List D} {vs : List V} {i : Nat} {x : V}, ImmL K H ds vs → vs[i]? = some x → ∃ d, ds[i]? = some d ∧ Imm K H d x
  | [], _, _, _, h, e => by cases (show _ = _ from h); simp at e
  | d :: ds, _, 0, x, ⟨v, r, e1, h1, h2⟩, e => by subst e1; simp at e; subst e; exact ⟨d, rfl, h1⟩
  | d :: ds, _, i + 1, x, ⟨v, r, e1, h1, h2⟩, e => by
    subst e1
    obtain ⟨d', h3, h4⟩ := ImmL.get (i := i) (x := x) h2 (by simpa using e)
    exact ⟨d', by simpa using h3, h4⟩
theorem ImmL.get' {K : PySem.W.Frag} {H : Hp} : ∀ {ds : List D} {vs : List V} {i : Nat} {d : D}, ImmL K H ds vs → ds[i]? = some d → ∃ x, vs[i]? = some x ∧ Imm K H d x
  | [], _, _, _, h, e => by simp at e
  | d :: ds, _, 0, x, ⟨v, r, e1, h1, h2⟩, e => by subst e1; simp at e; subst e; exact ⟨v, rfl, h1⟩
  | d :: ds, _, i + 1, x, ⟨v, r, e1, h1, h2⟩, e => by
    subst e1
    obtain ⟨d', h3, h4⟩ := ImmL.get' (i := i) (d := x) h2 (by simpa using e)
    exact ⟨d', by simpa using h3, h4⟩
theorem ImmL.append {K : PySem.W.Frag} {H : Hp} : ∀ {ds es : List D} {vs ws : List V}, ImmL K H ds vs → ImmL K H es ws → ImmL K H (ds ++ es) (vs ++ ws)
  | [], _, _, _, h, h' => by cases (show _ = _ from h); exact h'
  | d :: ds, _, _, _, ⟨v, r, e1, h1, h2⟩, h' => by subst e1; exact ⟨v, _, rfl, h1, ImmL.append h2 h'⟩
theorem ImmL.snoc {K : PySem.W.Frag} {H : Hp} {ds : List D} {vs : List V} {d : D} {v : V} (h : ImmL K H ds vs) (h' : Imm K H d v) : ImmL K H (ds ++ [d]) (vs ++ [v]) := h.append ⟨v, [], rfl, h', rfl⟩
theorem ImmL.drop {K : PySem.W.Frag} {H : Hp} : ∀ {ds : List D} {vs : List V} (n : Nat), ImmL K H ds vs → ImmL K H (ds.drop n) (vs.drop n)
  | _, _, 0, h => h
  | [], _, n + 1, h => by cases (show _ = _ from h); rfl
  | d :: ds, _, n + 1, ⟨v, r, e1, h1, h2⟩ => by subst e1; exact ImmL.drop n h2
theorem ImmL.take {K : PySem.W.Frag} {H : Hp} : ∀ {ds : List D} {vs : List V} (n : Nat), ImmL K H ds vs → ImmL K H (ds.take n) (vs.take n)
  | _, _, 0, h => rfl
  | [], _, n + 1, h => by cases (show _ = _ from h); rfl
  | d :: ds, _, n + 1, ⟨v, r, e1, h1, h2⟩ => by subst e1; exact ⟨v, _, rfl, h1, ImmL.take n h2⟩
theorem ImmL.set {K : PySem.W.Frag} {H : Hp} : ∀ {ds : List D} {vs : List V} (n : Nat) {d : D} {v : V}, ImmL K H ds vs → Imm K H d v → ImmL K H (ds.set n d) (vs.set n v)
  | [], _, n, _, _, h, _ => by cases (show _ = _ from h); rfl
  | d :: ds, _, 0, _, _, ⟨v, r, e1, h1, h2⟩, h' => by subst e1; exact ⟨_, _, rfl, h', h2⟩
  | d :: ds, _, n + 1, _, _, ⟨v, r, e1, h1, h2⟩, h' => by subst e1; exact ⟨v, _, rfl, h1, ImmL.set n h2 h'⟩
theorem ImmL.erase {K : PySem.W.Frag} {H : Hp} : ∀ {ds : List D} {vs : List V} (n : Nat), ImmL K H ds vs → ImmL K H (ds.eraseIdx n) (vs.eraseIdx n)
  | [], _, n, h => by cases (show _ = _ from h); rfl
  | d :: ds, _, 0, ⟨v, r, e1, h1, h2⟩ => by subst e1; exact h2
  | d :: ds, _, n + 1, ⟨v, r, e1, h1, h2⟩ => by subst e1; exact ⟨v, _, rfl, h1, ImmL.erase n h2⟩
theorem ImmL.reverse {K : PySem.W.Frag} {H : Hp} : ∀ {ds : List D} {vs : List V}, ImmL K H ds vs → ImmL K H ds.reverse vs.reverse
  | [], _, h => by cases (show _ = _ from h); rfl
  | d :: ds, _, ⟨v, r, e1, h1, h2⟩ => by subst e1; rw [List.reverse_cons, List.reverse_cons]; exact (ImmL.reverse h2).snoc h1
theorem ImmL.none_iff {K : PySem.W.Frag} {H : Hp} {ds : List D} {vs : List V} (h : ImmL K H ds vs) : vs = [] ↔ ds = [] := by
  have := h.len
  constructor
  · intro e; subst e; exact List.length_eq_zero_iff.mp this.symm
  · intro e; subst e; exact List.length_eq_zero_iff.mp this

/-- an own object at a -/
def OwnAt (K : PySem.W.Frag) (H : Hp) (a : Addr) : D → Prop
  | .lst ds => ∃ vs, H a = some (.lst vs) ∧ ImmL K H ds vs
  | .dic false kvs => ∃ kws, H a = some (.dK kws) ∧ ImmK K H kvs kws
  | .dic true kvs => ∃ kws, H a = some (.dT kws) ∧ ImmT K H kvs kws
  | _ => False
theorem OwnAt.some {K : PySem.W.Frag} {H : Hp} {a : Addr} : ∀ {d : D}, OwnAt K H a d → ∃ u, H a = some u ∧ Mut (some u)
  | .lst ds, ⟨vs, h, _⟩ => ⟨_, h, True.intro⟩
  | .dic false kvs, ⟨_, h, _⟩ => ⟨_, h, True.intro⟩
  | .dic true kvs, ⟨_, h, _⟩ => ⟨_, h, True.intro⟩
/-- what can be read as d -/
def Rd (K : PySem.W.Frag) (H : Hp) (d : D) (x : V) : Prop := Imm K H d x ∨ ∃ a, x = .ref a ∧ OwnAt K H a d
theorem Rd.lst {K : PySem.W.Frag} {H : Hp} {ds : List D} {x : V} (h : Rd K H (.lst ds) x) : ∃ a vs, x = .ref a ∧ SqL K H a vs ∧ ImmL K H ds vs := by
  rcases h with ⟨a, vs, e, h1, h2⟩ | ⟨a, e, vs, h1, h2⟩
  · exact ⟨a, vs, e, h1.seq, h2⟩
  · exact ⟨a, vs, e, SqL.of h1, h2⟩
theorem Rd.tup {K : PySem.W.Frag} {H : Hp} {ds : List D} {x : V} (h : Rd K H (.tup ds) x) : ∃ a vs, x = .ref a ∧ TpT K H a vs ∧ ImmL K H ds vs := by
  rcases h with h | ⟨a, e, h⟩
  · exact h
  · exact h.elim
theorem Rd.int {K : PySem.W.Frag} {H : Hp} {i : Int} {x : V} (h : Rd K H (.int i) x) : x = .int i := by
  rcases h with h | ⟨a, e, h⟩
  · exact h
  · exact h.elim
theorem Rd.str {K : PySem.W.Frag} {H : Hp} {i : Str} {x : V} (h : Rd K H (.str i) x) : x = .str i := by
  rcases h with h | ⟨a, e, h⟩
  · exact h
  · exact h.elim
theorem Rd.bl {K : PySem.W.Frag} {H : Hp} {i : Bool} {x : V} (h : Rd K H (.bl i) x) : x = .bl i := by
  rcases h with h | ⟨a, e, h⟩
  · exact h
  · exact h.elim
theorem Rd.non {K : PySem.W.Frag} {H : Hp} {x : V} (h : Rd K H .non x) : x = .non := by
  rcases h with h | ⟨a, e, h⟩
  · exact h
  · exact h.elim

theorem Rd.scr {K : PySem.W.Frag} {H : Hp} {ns : List Int} {x : V} (h : Rd K H (.scr ns) x) : ∃ a, x = .ref a ∧ SqL K H a (ns.map V.int) := by
  rcases h with ⟨a, e, h⟩ | ⟨a, e, h⟩
  · exact ⟨a, e, h.seq⟩
  · exact h.elim
theorem Rd.dic {K : PySem.W.Frag} {H : Hp} {t : Bool} {kvs : List (D × D)} {x : V} (h : Rd K H (.dic t kvs) x) : ∃ a, x = .ref a := by
  rcases h with h | ⟨a, e, _⟩
  · cases t with
    | false => obtain ⟨a, _, _, e, _⟩ := h; exact ⟨a, e⟩
    | true => obtain ⟨a, _, _, e, _⟩ := h; exact ⟨a, e⟩
  · exact ⟨a, e⟩
theorem Rd.dicK {K : PySem.W.Frag} {H : Hp} {kvs : List (D × D)} {x : V} (h : Rd K H (.dic false kvs) x) : ∃ a kws, x = .ref a ∧ L2.Rd H a (.dK kws) ∧ ImmK K H kvs kws := by
  rcases h with ⟨a, o, kws, e, h1, h2⟩ | ⟨a, e, kws, h1, h2⟩
  · exact ⟨a, kws, e, .inr ⟨o, h1⟩, h2⟩
  · exact ⟨a, kws, e, .inl h1, h2⟩
theorem Rd.dicT {K : PySem.W.Frag} {H : Hp} {kvs : List (D × D)} {x : V} (h : Rd K H (.dic true kvs) x) : ∃ a kws, x = .ref a ∧ L2.Rd H a (.dT kws) ∧ ImmT K H kvs kws := by
  rcases h with ⟨a, o, kws, e, h1, h2⟩ | ⟨a, e, kws, h1, h2⟩
  · exact ⟨a, kws, e, .inr ⟨o, h1⟩, h2⟩
  · exact ⟨a, kws, e, .inl h1, h2⟩
theorem Rd.ktp {K : PySem.W.Frag} {H : Hp} {ds : List D} {x : V} (h : Rd K H (.ktp ds) x) : ∃ a vs, x = .ref a ∧ KtT K a vs ∧ ImmL K H ds vs := by
  rcases h with h | ⟨a, e, h⟩
  · exact h
  · exact h.elim
/-- a list that is tracked, or locked -/
theorem Rd.lstR {K : PySem.W.Frag} {H : Hp} {ds : List D} {x : V} (h : Rd K H (.lst ds) x) : ∃ a vs, x = .ref a ∧ L2.Rd H a (.lst vs) ∧ ImmL K H ds vs := by
  rcases h with ⟨a, vs, e, h1, h2⟩ | ⟨a, e, vs, h1, h2⟩
  · exact ⟨a, vs, e, .inr h1, h2⟩
  · exact ⟨a, vs, e, .inl h1, h2⟩
/-! ### the configuration, the state -/
structure Cf where
  prog : Program
  w : World
  K : PySem.W.Frag
  mg : Str → Option Value
  base : Heap
  N : List Str
  sc : Scope
  fn : Str → Bool
  k : Nat
  H0 : Hp
  io : List (Nat × Addr)
def Cf.ios (g : Cf) : List Nat := g.io.map (·.1)
structure At (g : Cf) (X : Cx) : Prop where
  prog : X.prog = g.prog
  w : X.w = g.w
  K : X.K = g.K
  mg : X.mg = g.mg
  base : X.base = g.base
  N : X.N = g.N
  sc : X.env.scope = g.sc
  fn : ∀ x, g.fn x = true → X.fn x = true
  room : Room g.k X.A
  calm : X.calm = true
def Own (ρ : Rho) (σ : L2.St) (a : Addr) : Prop := ∃ (i : Nat) (d : D), ρ[i]? = some (some (.o d)) ∧ σ[i]? = some (some (.ref a))
structure ER (K : PySem.W.Frag) (g : Cf) (ρ : Rho) (σ : L2.St) (H : Hp) : Prop where
  len : ρ.length = σ.length
  val : ∀ (i : Nat) (d : D), ρ[i]? = some (some (.v d)) → ∃ x, σ[i]? = some (some x) ∧ Imm K H d x
  own : ∀ (i : Nat) (d : D), ρ[i]? = some (some (.o d)) → ∃ a, σ[i]? = some (some (.ref a)) ∧ OwnAt K H a d
  bor : ∀ i j : Nat, ρ[i]? ≠ some (some (.b j))
  sep : ∀ (i j : Nat) (d d' : D) (a : Addr), ρ[i]? = some (some (.o d)) → ρ[j]? = some (some (.o d')) → σ[i]? = some (some (.ref a)) → σ[j]? = some (some (.ref a)) → i = j
  old : ∀ a o, g.H0 a = some o → (∀ p ∈ g.io, p.2 ≠ a) → H a = some o
  new : ∀ (i : Nat) (d : D) (a : Addr), ρ[i]? = some (some (.o d)) → σ[i]? = some (some (.ref a)) → g.H0 a = none ∨ (i, a) ∈ g.io
  io : ∀ p ∈ g.io, σ[p.1]? = some (some (.ref p.2)) ∧ ∃ d, ρ[p.1]? = some (some (.o d))
theorem OwnAt.same {K : PySem.W.Frag} {H H' : Hp} (e : Same H H') {a : Addr} : ∀ {d : D}, OwnAt K H a d → OwnAt K H' a d
  | .lst ds, ⟨vs, h, h2⟩ => ⟨vs, e _ _ h, ImmL.ext (Ext.of_same e) ds vs h2⟩
  | .dic false kvs, ⟨kws, h, h2⟩ => ⟨kws, e _ _ h, ImmK.ext (Ext.of_same e) kvs kws h2⟩
  | .dic true kvs, ⟨kws, h, h2⟩ => ⟨kws, e _ _ h, ImmT.ext (Ext.of_same e) kvs kws h2⟩
theorem OwnAt.ext {K : PySem.W.Frag} {H H' : Hp} (e : Ext H H') {a : Addr} (h' : H' a = H a) : ∀ {d : D}, OwnAt K H a d → OwnAt K H' a d
  | .lst ds, ⟨vs, h, h2⟩ => ⟨vs, h'.trans h, ImmL.ext e ds vs h2⟩
  | .dic false kvs, ⟨kws, h, h2⟩ => ⟨kws, h'.trans h, ImmK.ext e kvs kws h2⟩
  | .dic true kvs, ⟨kws, h, h2⟩ => ⟨kws, h'.trans h, ImmT.ext e kvs kws h2⟩
theorem ER.same {K : PySem.W.Frag} {g : Cf} {ρ : Rho} {σ : L2.St} {H H' : Hp} (R : ER K g ρ σ H) (e : Same H H') : ER K g ρ σ H' where
  len := R.len
  val := fun i d h => let ⟨x, h1, h2⟩ := R.val i d h; ⟨x, h1, Imm.ext (Ext.of_same e) d x h2⟩
  own := fun i d h => let ⟨x, h1, h2⟩ := R.own i d h; ⟨x, h1, h2.same e⟩
  bor := R.bor
  sep := R.sep
  old := fun a o h q => e a o (R.old a o h q)
  new := R.new
  io := R.io
/-- everything but the address a is kept, which is none of the own ones -/
theorem ER.but {K : PySem.W.Frag} {g : Cf} {ρ : Rho} {σ : L2.St} {H H' : Hp} {a : Addr} (R : ER K g ρ σ H) (x : Ext H H') (e : ∀ b o, b ≠ a → H b = some o → H' b = some o) (na : ¬ Own ρ σ a) (h0 : g.H0 a = none) : ER K g ρ σ H' where
  len := R.len
  val := fun i d h => let ⟨y, h1, h2⟩ := R.val i d h; ⟨y, h1, Imm.ext x d y h2⟩
  own := fun i d h => by
    obtain ⟨y, h1, h2⟩ := R.own i d h
    have hy : y ≠ a := fun z => na ⟨i, d, h, z ▸ h1⟩
    obtain ⟨u, hu, _⟩ := h2.some
    exact ⟨y, h1, h2.ext x ((e y u hy hu).trans hu.symm)⟩
  bor := R.bor
  sep := R.sep
  old := fun b o h q => e b o (fun z => by rw [z, h0] at h; cases h) (R.old b o h q)
  new := R.new
  io := R.io
/-- an expression's value -/
def SR (K : PySem.W.Frag) (g : Cf) (ρ : Rho) (σ : L2.St) (H : Hp) : S → V → Prop
  | .v d, x => Imm K H d x
  | .o d, x => ∃ a, x = .ref a ∧ OwnAt K H a d ∧ ¬ Own ρ σ a ∧ g.H0 a = none
  | .b i, x => σ[i]? = some (some x) ∧ ∃ d, ρ[i]? = some (some (.o d))
/-- .. where a new object is locked -/
def NR (K : PySem.W.Frag) (σ : L2.St) (H : Hp) : S → V → Prop
  | .v d, x => Imm K H d x
  | .o d, x => Imm K H d x
  | .b i, x => σ[i]? = some (some x)
def pk (ρ : Rho) : S → Out D
  | .v d => .ok d
  | .o d => .ok d
  | .b i => match ρ[i]? with
    | some (some (.o d)) => .ok d
    | some (some (.v d)) => .ok d
    | _ => .stuck
/-- the value, to be shared from now on -/
def fz (g : List Nat) (s : S) (ρ : Rho) : Out (D × Rho) := match s with
  | .v d => .ok (d, ρ)
  | .o d => .ok (d, ρ)
  | .b i => if i ∈ g then .stuck else match ρ[i]? with
    | some (some (.o d)) => .ok (d, ρ.set i (some (.v d)))
    | some (some (.v d)) => .ok (d, ρ)
    | _ => .stuck
theorem pk_rd {K : PySem.W.Frag} {g : Cf} {ρ' : Rho} {σ : L2.St} {H H' : Hp} {s : S} {x : V} {d : D} (n : NR K σ H s x) (R : ER K g ρ' σ H') (e : Ext H H') (h : pk ρ' s = .ok d) : Rd K H' d x := by
  cases s with
  | v d' => cases h; exact .inl (Imm.ext e _ _ n)
  | o d' => cases h; exact .inl (Imm.ext e _ _ n)
  | b i =>
    have n1 : σ[i]? = some (some x) := n
    cases hs : ρ'[i]? with
    | none => simp only [pk, hs] at h; cases h
    | some o =>
      cases o with
      | none => simp only [pk, hs] at h; cases h
      | some z =>
        cases z with
        | b j => simp only [pk, hs] at h; cases h
        | o d' =>
          simp only [pk, hs] at h
          cases h
          obtain ⟨a, h1, h2⟩ := R.own i _ hs
          rw [n1] at h1; cases h1
          exact .inr ⟨a, rfl, h2⟩
        | v d' =>
          simp only [pk, hs] at h
          cases h
          obtain ⟨y, h1, h2⟩ := R.val i _ hs
          rw [n1] at h1; cases h1
          exact .inl h2

/-! ### the judgement of an expression -/
/-- what is wanted behind a reckoning -/
def Pst (K : PySem.W.Frag) (g : Cf) (σ : L2.St) (H : Hp) (W : WX) {β : Type} (G : β → Hp → Prop) : Out β → Prop
  | .ok b => ∀ H', Ext H H' → G b H'
  | .exc c ρ' => ∀ cls H', ER K g ρ' σ H' → Ext H H' → g.mg c = some cls → W cls none σ H'
  | .stuck => False
section
variable {K : PySem.W.Frag} {g : Cf} {σ : L2.St} {H H1 : Hp} {W : WX} {α β : Type} {G : β → Hp → Prop}
theorem Pst.ext (e : Ext H H1) : ∀ {r : Out β}, Pst K g σ H W G r → Pst K g σ H1 W G r
  | .ok _, q => fun H' x => q H' (e.trans x)
  | .exc _ _, q => fun cls H' R x m => q cls H' R (e.trans x) m
  | .stuck, q => q
theorem pk_noexc {ρ ρ' : Rho} {s : S} {c : Str} (h : pk ρ s = .exc c ρ') : False := by
  cases s with
  | v d => cases h
  | o d => cases h
  | b i =>
    simp only [pk] at h
    split at h <;> cases h
theorem Pst.pk {ρ : Rho} {s : S} {k : D → Out β} (q : Pst K g σ H W G (PL.pk ρ s >>= k)) : ∃ d, PL.pk ρ s = .ok d ∧ Pst K g σ H W G (k d) := by
  cases h : PL.pk ρ s with
  | stuck => rw [h] at q; exact q.elim
  | exc c ρ' => exact (pk_noexc h).elim
  | ok d => rw [h] at q; exact ⟨d, rfl, q⟩
def liftO : Option α → Out α
  | some a => .ok a
  | none => .stuck
@[simp] theorem liftO_some (a : α) : liftO (some a) = .ok a := (rfl)
@[simp] theorem liftO_none : liftO (none : Option α) = .stuck := (rfl)
theorem Pst.opt {o : Option α} {k : α → Out β} (q : Pst K g σ H W G (liftO o >>= k)) : ∃ a, o = some a ∧ Pst K g σ H W G (k a) := by
  cases o with
  | none => exact q.elim
  | some a => exact ⟨a, rfl, q⟩
end
def tE (K : PySem.W.Frag) (g : Cf) (f : Ex) (W : WX) : TE := fun σ H Q => ∃ ρ, ER K g ρ σ H ∧ Pst K g σ H W (fun p H' => ER K g p.2 σ H' → ∀ x, SR K g p.2 σ H' p.1 x → Q x H') (f ρ)
def EOk (g : Cf) (e : Expr) (f : Ex) : Prop := ∀ (X : Cx) (W : WX), At g X → Takes X W → PE X e (tE X.K g f W)
def tN (K : PySem.W.Frag) (g : Cf) (f : Ex) (W : WX) : TE := fun σ H Q => ∃ ρ, ER K g ρ σ H ∧ Pst K g σ H W (fun p H' => ER K g p.2 σ H' → ∀ x, NR K σ H' p.1 x → Q x H') (f ρ)
theorem PE.imp {X : Cx} {e : Expr} {t t' : TE} (h : PE X e t) (hi : ∀ σ H Q, t' σ H Q → t σ H Q) : PE X e t' := ⟨fun pins s σ H Q I q => h.run pins s σ H Q I (hi σ H Q q)⟩
theorem PT.imp {X : Cx} {e : Expr} {t t' : TT} (h : PT X e t) (hi : ∀ σ H Q, t' σ H Q → t σ H Q) : PT X e t' := ⟨fun pins s σ H Q I q => h.run pins s σ H Q I (hi σ H Q q)⟩
theorem PS.imp {X : Cx} {e : Stmt} {t t' : TS} (h : PS X e t) (hi : ∀ D σ H, t' D σ H → t D σ H) : PS X e t' := ⟨fun pins s σ H D I q => h.run pins s σ H D I (hi D σ H q)⟩
theorem PSs.imp {X : Cx} {e : List Stmt} {t t' : TS} (h : PSs X e t) (hi : ∀ D σ H, t' D σ H → t D σ H) : PSs X e t' := ⟨fun pins s σ H D I q => h.run pins s σ H D I (hi D σ H q)⟩
theorem PA.imp {X : Cx} {e : List Expr} {t t' : TA} (h : PA X e t) (hi : ∀ σ H Q, t' σ H Q → t σ H Q) : PA X e t' := ⟨fun pos pins s σ H Q I q => h.run pos pins s σ H Q I (hi σ H Q q)⟩
theorem PI.imp {X : Cx} {tg e : Expr} {t t' : TI} (h : PI X tg e t) (hi : ∀ σ H Q, t' σ H Q → t σ H Q) : PI X tg e t' := ⟨fun pins s σ H Q I q => h.run pins s σ H Q I (hi σ H Q q)⟩

/-- the lock of an own object that no slot holds -/
theorem lock_tmp {K : PySem.W.Frag} {g : Cf} {ρ : Rho} {σ : L2.St} {H : Hp} {a : Addr} {d : D} (R : ER K g ρ σ H) (o : OwnAt K H a d) (no : ¬ Own ρ σ a) (h0 : g.H0 a = none) :
    ∃ u, H a = some u ∧ Mut (some u) ∧ ∀ od, ER K g ρ σ (upd H a (.frz od u)) ∧ Ext H (upd H a (.frz od u)) ∧ Imm K (upd H a (.frz od u)) d (.ref a) := by
  obtain ⟨u, hu, mu⟩ := o.some
  refine ⟨u, hu, mu, fun od => ?_⟩
  have x : Ext H (upd H a (.frz od u)) := fun b ob hb => by
    by_cases hba : b = a
    · subst hba
      rw [hu] at hb; cases hb
      exact ⟨fun xs e => by subst e; exact mu.elim, fun _ _ e => by subst e; exact mu.elim⟩
    · exact ⟨fun _ _ => by rw [upd_ne hba]; exact hb, fun _ _ _ => by rw [upd_ne hba]; exact hb⟩
  refine ⟨R.but (a := a) x (fun b ob hb hh => by rw [upd_ne hb]; exact hh) no h0, x, ?_⟩
  cases d with
  | lst ds =>
    obtain ⟨vs, h1, h2⟩ := o
    rw [hu] at h1; cases h1
    exact ⟨a, vs, rfl, ⟨od, upd_same⟩, ImmL.ext x ds vs h2⟩
  | dic t kvs =>
    cases t with
    | false =>
      obtain ⟨kws, h1, h2⟩ := o
      rw [hu] at h1; cases h1
      exact ⟨a, od, kws, rfl, upd_same, ImmK.ext x kvs kws h2⟩
    | true =>
      obtain ⟨kws, h1, h2⟩ := o
      rw [hu] at h1; cases h1
      exact ⟨a, od, kws, rfl, upd_same, ImmT.ext x kvs kws h2⟩
  | _ => exact o.elim
/-- an expression, a new object of it locked -/
theorem EOk.n {g : Cf} {e : Expr} {f : Ex} (h : EOk g e f) {X : Cx} {W : WX} (A : At g X) (tk : Takes X W) : PE X e (tN X.K g f W) := by
  refine ⟨fun pins s σ H Q I ⟨ρ, R, q⟩ => ?_⟩
  cases hf : f ρ with
  | stuck => rw [hf] at q; exact q.elim
  | exc c ρ' =>
    rw [hf] at q
    exact (h X W A tk).run pins s σ H Q I ⟨ρ, R, by rw [hf]; exact q⟩
  | ok p =>
    obtain ⟨s', ρ'⟩ := p
    rw [hf] at q
    have q : ∀ H', Ext H H' → ER X.K g ρ' σ H' → ∀ x, NR X.K σ H' s' x → Q x H' := q
    refine thn ((h X W A tk).run pins s σ H (fun x H' => ER X.K g ρ' σ H' ∧ Ext H H' ∧ SR X.K g ρ' σ H' s' x) I ⟨ρ, R, by rw [hf]; exact fun H' b a x c => ⟨a, b, c⟩⟩) fun u s1 ⟨x, H1, I1, r1, R1, e1, sr⟩ => ?_
    cases s' with
    | v d => exact ⟨x, H1, I1, r1, q H1 e1 R1 x sr⟩
    | b i => exact ⟨x, H1, I1, r1, q H1 e1 R1 x sr.1⟩
    | o d =>
      obtain ⟨a, rfl, oa, no, h0⟩ := sr
      obtain ⟨u', hu, mu, F⟩ := lock_tmp R1 oa no h0
      obtain ⟨od, I2⟩ := I1.lock hu mu
      obtain ⟨R2, e2, im⟩ := F od
      exact ⟨_, _, I2, r1, q _ (e1.trans e2) R2 _ im⟩
/-- a reckoning that begins with an expression -/
theorem tN_step {K : PySem.W.Frag} {g : Cf} {σ : L2.St} {H : Hp} {W : WX} {β : Type} {G : β → Hp → Prop} {ρ : Rho} {fa : Ex} {k : S × Rho → Out β} {Q : VK} (R : ER K g ρ σ H) (q : Pst K g σ H W G (fa ρ >>= k))
    (h : ∀ s ρ1 x H1, ER K g ρ1 σ H1 → Ext H H1 → NR K σ H1 s x → Pst K g σ H1 W G (k (s, ρ1)) → Q x H1) : tN K g fa W σ H Q := by
  refine ⟨ρ, R, ?_⟩
  cases ha : fa ρ with
  | stuck => rw [ha] at q; exact q.elim
  | exc c ρ1 => rw [ha] at q; exact q
  | ok p =>
    rw [ha] at q
    exact fun H1 E1 R1 x n => h p.1 p.2 x H1 R1 E1 n (Pst.ext E1 (r := k p) q)
end PL

namespace PL
open PySem PySem.Spec PyProof.Rows L2

section
variable {g : Cf} {e a b c : Expr} {pos : Pos}
/-! ### names, constants -/
def eVar (i : Nat) : Ex := fun ρ => match ρ[i]? with
  | some (some (.v d)) => .ok (.v d, ρ)
  | some (some (.o _)) => .ok (.b i, ρ)
  | _ => .stuck
def eC (d : D) : Ex := fun ρ => .ok (.v d, ρ)
theorem e_var {i : Nat} {x : Str} (hN : g.N[i]? = some x := by rfl) (hv : Vis g.sc x := by first | exact Or.inl rfl | exact Or.inr (Or.inl rfl) | exact Or.inr (Or.inr rfl)) (hd : (x == ("__debug__" : Str)) = false := by decide) (hcd : (x == ("__classdict__" : Str)) = false := by decide) : EOk g (.Name x pos) (eVar i) := fun X W A tk => by
  refine PE.imp (pe_var (i := i) (by rw [A.N]; exact hN) (by unfold Vis; rw [A.sc]; exact hv) hd hcd) fun σ H Q ⟨ρ, R, q⟩ => ?_
  unfold eVar at q
  cases hs : ρ[i]? with
  | none => rw [hs] at q; exact q.elim
  | some o =>
    cases o with
    | none => rw [hs] at q; exact q.elim
    | some s =>
      cases s with
      | v d =>
        rw [hs] at q
        obtain ⟨x, h1, h2⟩ := R.val i d hs
        exact ⟨x, h1, q H (Ext.refl H) R x h2⟩
      | o d =>
        rw [hs] at q
        obtain ⟨x, h1, h2⟩ := R.own i d hs
        exact ⟨_, h1, q H (Ext.refl H) R _ ⟨h1, d, hs⟩⟩
      | b j => exact absurd hs (R.bor i j)
theorem e_c {X : Cx} {W : WX} {d : D} {x : V} (h : PE X e (tC x)) (hi : ∀ H, Imm X.K H d x) : PE X e (tE X.K g (eC d) W) := PE.imp h fun σ H Q ⟨ρ, R, q⟩ => q H (Ext.refl H) R x (hi H)
theorem e_int {i : Int} {j : Nat} : EOk g (.Constant (.int i) j pos) (eC (.int i)) := fun X W A tk => e_c pe_int fun _ => rfl
theorem e_bl {i : Bool} {j : Nat} : EOk g (.Constant (.bool i) j pos) (eC (.bl i)) := fun X W A tk => e_c pe_bl fun _ => rfl
theorem e_str {i : Str} {j : Nat} : EOk g (.Constant (.str i) j pos) (eC (.str i)) := fun X W A tk => e_c pe_str fun _ => rfl
theorem e_non {j : Nat} : EOk g (.Constant .none j pos) (eC .non) := fun X W A tk => e_c pe_non fun _ => rfl
/-- a name of the module -/
def Glo (g : Cf) (x : Str) : Prop := g.sc.names.lookup x = some .globalImplicit
theorem Glo.gl {x : Str} {X : Cx} (h : Glo g x) (A : At g X) : Gl X x := by
  show X.env.scope.names.lookup x = _
  rw [A.sc]; exact h
/-- a constant of the module -/
structure Con (g : Cf) (x : Str) (d : D) : Prop where
  ex : ∃ u v, g.mg x = some u ∧ RelV v u ∧ ∀ H, Imm g.K H d v
theorem e_glob {x : Str} {d : D} (h : Con g x d) (hg : Glo g x := by rfl) (hd : (x == ("__debug__" : Str)) = false := by decide) : EOk g (.Name x pos) (eC d) := fun X W A tk => by
  obtain ⟨u, v, h1, h2, h3⟩ := h.ex
  exact e_c (pe_glob (hg.gl A) (by rw [A.mg]; exact h1) h2 hd) fun H => by rw [A.K]; exact h3 H

/-! ### operators by values -/
/-- a result: an immutable value, or a new object -/
def RS (K : PySem.W.Frag) (H H' : Hp) : S → V → Prop
  | .v d, z => Imm K H' d z
  | .o d, z => ∃ a, z = .ref a ∧ H a = none ∧ OwnAt K H' a d
  | .b _, _ => False
theorem not_own {K : PySem.W.Frag} {ρ : Rho} {σ : L2.St} {H : Hp} {a : Addr} (R : ER K g ρ σ H) (h : H a = none) : ¬ Own ρ σ a := fun ⟨i, d, h1, h2⟩ => by
  obtain ⟨a', h3, h4⟩ := R.own i d h1
  rw [h2] at h3; cases h3
  obtain ⟨u, hu, _⟩ := h4.some
  rw [h] at hu; cases hu
theorem not_old {K : PySem.W.Frag} {ρ : Rho} {σ : L2.St} {H : Hp} {a : Addr} (R : ER K g ρ σ H) (h : H a = none) : g.H0 a = none := by
  cases q : g.H0 a with
  | none => rfl
  | some o =>
    by_cases hp : ∀ p ∈ g.io, p.2 ≠ a
    · rw [R.old a o q hp] at h; cases h
    · exfalso
      apply hp
      intro p hp' e
      obtain ⟨h1, d, h2⟩ := R.io p hp'
      obtain ⟨a', h3, h4⟩ := R.own _ _ h2
      rw [h1] at h3; cases h3
      obtain ⟨u, hu, _⟩ := h4.some
      rw [e, h] at hu; cases hu
theorem RS.sr {K : PySem.W.Frag} {ρ : Rho} {σ : L2.St} {H H' : Hp} {s : S} {z : V} (R : ER K g ρ σ H) (r : RS K H H' s z) : SR K g ρ σ H' s z := by
  cases s with
  | v d => exact r
  | o d => obtain ⟨a, e, h, o⟩ := r; exact ⟨a, e, o, not_own R h, not_old R h⟩
  | b i => exact r.elim
def Op2 (X : Cx) (f : Value → Value → Sem Value) (od : D → D → Option S) : Prop :=
  ∃ r : R2, OpR X f r ∧ ∀ (x y : V) (H : Hp) (Q : VK) (d1 d2 : D) (s : S), Rd X.K H d1 x → Rd X.K H d2 y → od d1 d2 = some s → (∀ z H', Same H H' → RS X.K H H' s z → Q z H') → r x y H Q
def e2 (od : D → D → Option S) (fa fb : Ex) : Ex := fun ρ => fa ρ >>= fun p => fb p.2 >>= fun q => pk q.2 p.1 >>= fun d1 => pk q.2 q.1 >>= fun d2 => liftO (od d1 d2) >>= fun s => .ok (s, q.2)
theorem read2 {X : Cx} {W : WX} {r : R2} {od : D → D → Option S} {fa fb : Ex} {σ : L2.St} {H : Hp} {Q : VK}
    (h : ∀ (x y : V) (H : Hp) (Q : VK) (d1 d2 : D) (s : S), Rd X.K H d1 x → Rd X.K H d2 y → od d1 d2 = some s → (∀ z H', Same H H' → RS X.K H H' s z → Q z H') → r x y H Q)
    (t : tE X.K g (e2 od fa fb) W σ H Q) : tN X.K g fa W σ H fun x H1 => tN X.K g fb W σ H1 fun y H2 => r x y H2 Q := by
  obtain ⟨ρ, R, q⟩ := t
  refine tN_step R q fun s1 ρ1 x H1 R1 E1 n1 q1 => tN_step R1 q1 fun s2 ρ2 y H2 R2 E2 n2 q2 => ?_
  obtain ⟨d1, h1, q3⟩ := q2.pk
  obtain ⟨d2, h2, q4⟩ := q3.pk
  obtain ⟨s, ho, q5⟩ := q4.opt
  exact h x y H2 Q d1 d2 s (pk_rd n1 R2 E2 h1) (pk_rd n2 R2 (Ext.refl _) h2) ho fun z H' sm rs => q5 H' (Ext.of_same sm) (R2.same sm) z (rs.sr R2)
theorem e_bin {op : Operator} {od : D → D → Option S} {fa fb : Ex} (ho : ∀ X, At g X → Op2 X (binaryOp op) od) (ha : EOk g a fa) (hb : EOk g b fb) : EOk g (.BinOp a op b pos) (e2 od fa fb) := fun X W A tk => by
  obtain ⟨r, hr, h⟩ := ho X A
  exact PE.imp (pe_op hr (ha.n A tk) (hb.n A tk)) fun σ H Q t => read2 h t
end
end PL

namespace PL
open PySem PySem.Spec PyProof.Rows L2
section
variable {g : Cf} {e a b c : Expr} {es rest : List Expr} {pos : Pos}
/-! ### one value -/
def Un1 (X : Cx) (r : V → Hp → VK → Prop) (od : D → Option S) : Prop := ∀ (x : V) (H : Hp) (Q : VK) (d1 : D) (s : S), Rd X.K H d1 x → od d1 = some s → (∀ z H', Same H H' → RS X.K H H' s z → Q z H') → r x H Q
def e1 (od : D → Option S) (fa : Ex) : Ex := fun ρ => fa ρ >>= fun p => pk p.2 p.1 >>= fun d1 => liftO (od d1) >>= fun s => .ok (s, p.2)
theorem read1 {X : Cx} {W : WX} {r : V → Hp → VK → Prop} {od : D → Option S} {fa : Ex} {σ : L2.St} {H : Hp} {Q : VK} (h : Un1 X r od)
    (t : tE X.K g (e1 od fa) W σ H Q) : tN X.K g fa W σ H fun x H1 => r x H1 Q := by
  obtain ⟨ρ, R, q⟩ := t
  refine tN_step R q fun s1 ρ1 x H1 R1 E1 n1 q1 => ?_
  obtain ⟨d1, h1, q3⟩ := q1.pk
  obtain ⟨s, ho, q5⟩ := q3.opt
  exact h x H1 Q d1 s (pk_rd n1 R1 (Ext.refl _) h1) ho fun z H' sm rs => q5 H' (Ext.of_same sm) (R1.same sm) z (rs.sr R1)
theorem e_un {op : UnaryOp} {od : D → Option S} {fa : Ex} (ho : ∀ X, At g X → ∃ r, UnR X (unaryOp op) r ∧ Un1 X r od) (ha : EOk g a fa) : EOk g (.UnaryOp op a pos) (e1 od fa) := fun X W A tk => by
  obtain ⟨r, hr, h⟩ := ho X A
  exact PE.imp (pe_un hr (ha.n A tk)) fun σ H Q t => read1 h t

/-! ### tests -/
abbrev Tx := Rho → Out (Bool × Rho)
def tT (K : PySem.W.Frag) (g : Cf) (f : Tx) (W : WX) : TT := fun σ H Q => ∃ ρ, ER K g ρ σ H ∧ Pst K g σ H W (fun p H' => ER K g p.2 σ H' → Q p.1 H') (f ρ)
def TOk (g : Cf) (e : Expr) (f : Tx) : Prop := ∀ (X : Cx) (W : WX), At g X → Takes X W → PT X e (tT X.K g f W)
/-- a test's answer as a value -/
def bE (t : Tx) : Ex := fun ρ => t ρ >>= fun p => .ok (.v (.bl p.1), p.2)
theorem tT_step {K : PySem.W.Frag} {σ : L2.St} {H : Hp} {W : WX} {β : Type} {G : β → Hp → Prop} {ρ : Rho} {fa : Tx} {k : Bool × Rho → Out β} {Q : Bool → Hp → Prop} (R : ER K g ρ σ H) (q : Pst K g σ H W G (fa ρ >>= k))
    (h : ∀ s ρ1 H1, ER K g ρ1 σ H1 → Ext H H1 → Pst K g σ H1 W G (k (s, ρ1)) → Q s H1) : tT K g fa W σ H Q := by
  refine ⟨ρ, R, ?_⟩
  cases ha : fa ρ with
  | stuck => rw [ha] at q; exact q.elim
  | exc c ρ1 => rw [ha] at q; exact q
  | ok p =>
    rw [ha] at q
    exact fun H1 E1 R1 => h p.1 p.2 H1 R1 E1 (Pst.ext E1 (r := k p) q)
def dTru : D → Option Bool
  | .non => some false
  | .bl b => some b
  | .int i => some (i != 0)
  | .str x => if x.length ≤ 16777216 then some ((x.length : Int) != 0) else none
  | .tup ds => some (!ds.isEmpty)
  | .lst ds => some (!ds.isEmpty)
  | .dic _ _ => none
  | .scr ns => some (!ns.isEmpty)
  | .ktp ds => some (!ds.isEmpty)
theorem immL_empty {K : PySem.W.Frag} {H : Hp} : ∀ {ds : List D} {vs : List V}, ImmL K H ds vs → (!vs.isEmpty) = !ds.isEmpty
  | [], _, h => by cases (show _ = _ from h); rfl
  | d :: ds, _, ⟨v, r, e1, _⟩ => by subst e1; rfl
theorem tru_of {K : PySem.W.Frag} {H : Hp} {d : D} {x : V} {k : Bool} (r : Rd K H d x) (h : dTru d = some k) : TruV K x H k := by
  cases d with
  | non => cases r.non; cases h; rfl
  | bl b => cases r.bl; cases h; rfl
  | int i => cases r.int; cases h; rfl
  | str z =>
    cases r.str
    simp only [dTru] at h
    split at h
    · rename_i hz
      cases h
      exact ⟨by rw [sizeLine_eq]; exact hz, rfl⟩
    · cases h
  | tup ds =>
    obtain ⟨a, vs, rfl, h1, h2⟩ := r.tup
    cases h
    exact .inr (.inl ⟨vs, h1.seq, (immL_empty h2).symm⟩)
  | lst ds =>
    obtain ⟨a, vs, rfl, h1, h2⟩ := r.lst
    cases h
    exact .inl ⟨vs, h1, (immL_empty h2).symm⟩
  | dic t kvs => cases h
  | ktp ds =>
    obtain ⟨a, vs, rfl, h1, h2⟩ := r.ktp
    cases h
    exact .inr (.inl ⟨vs, h1.seq, (immL_empty h2).symm⟩)
  | scr ns =>
    obtain ⟨a, rfl, h1⟩ := r.scr
    cases h
    exact .inl ⟨_, h1, by cases ns <;> rfl⟩
def tTru (fa : Ex) : Tx := fun ρ => fa ρ >>= fun p => pk p.2 p.1 >>= fun d => liftO (dTru d) >>= fun b => .ok (b, p.2)
theorem t_tru {fa : Ex} (ha : EOk g a fa) (he : ∀ env whole, isTrue a env whole = (do let v ← whole; standAt a.pos; holding [v] (truthy v)) := by intro _ _; rfl) : TOk g a (tTru fa) := fun X W A tk => by
  refine PT.imp (pt_truth (ha.n A tk) (he _)) fun σ H Q ⟨ρ, R, q⟩ => ?_
  refine tN_step R q fun s1 ρ1 x H1 R1 E1 n1 q1 => ?_
  obtain ⟨d1, h1, q3⟩ := q1.pk
  obtain ⟨k, ho, q5⟩ := q3.opt
  exact ⟨k, tru_of (pk_rd n1 R1 (Ext.refl _) h1) ho, q5 H1 (Ext.refl _) R1⟩
/-- comparisons -/
def OpB (X : Cx) (f : Value → Value → Sem Value) (od : D → D → Option Bool) : Prop :=
  ∃ r : R2, OpR X f r ∧ ∀ (x y : V) (H : Hp) (Q : VK) (d1 d2 : D) (k : Bool), Rd X.K H d1 x → Rd X.K H d2 y → od d1 d2 = some k → Q (.bl k) H → r x y H Q
def t2 (od : D → D → Option Bool) (fa fb : Ex) : Tx := fun ρ => fa ρ >>= fun p => fb p.2 >>= fun q => pk q.2 p.1 >>= fun d1 => pk q.2 q.1 >>= fun d2 => liftO (od d1 d2) >>= fun k => .ok (k, q.2)
theorem readC {X : Cx} {W : WX} {β : Type} {G : β → Hp → Prop} {r : R2} {od : D → D → Option Bool} {fa fb : Ex} {σ : L2.St} {H : Hp} {Q : VK} {ρ : Rho} {k : Bool × Rho → Out β}
    (h : ∀ (x y : V) (H : Hp) (Q : VK) (d1 d2 : D) (k : Bool), Rd X.K H d1 x → Rd X.K H d2 y → od d1 d2 = some k → Q (.bl k) H → r x y H Q)
    (R : ER X.K g ρ σ H) (t : Pst X.K g σ H W G (t2 od fa fb ρ >>= k)) (hk : ∀ b ρ2 H2, ER X.K g ρ2 σ H2 → Ext H H2 → Pst X.K g σ H2 W G (k (b, ρ2)) → Q (.bl b) H2) : tN X.K g fa W σ H fun x H1 => tN X.K g fb W σ H1 fun y H2 => r x y H2 Q := by
  have bb : t2 od fa fb ρ >>= k = (fa ρ >>= fun p => fb p.2 >>= fun q => pk q.2 p.1 >>= fun d1 => pk q.2 q.1 >>= fun d2 => liftO (od d1 d2) >>= fun b => k (b, q.2)) := by
    unfold t2
    cases fa ρ with
    | stuck => rfl
    | exc c ρ1 => rfl
    | ok p =>
      simp only [bind_ok]
      cases fb p.2 with
      | stuck => rfl
      | exc c ρ1 => rfl
      | ok q =>
        simp only [bind_ok]
        cases pk q.2 p.1 with
        | stuck => rfl
        | exc c ρ1 => rfl
        | ok d1 =>
          simp only [bind_ok]
          cases pk q.2 q.1 with
          | stuck => rfl
          | exc c ρ1 => rfl
          | ok d2 =>
            simp only [bind_ok]
            cases od d1 d2 <;> rfl
  rw [bb] at t
  refine tN_step R t fun s1 ρ1 x H1 R1 E1 n1 q1 => tN_step R1 q1 fun s2 ρ2 y H2 R2 E2 n2 q2 => ?_
  obtain ⟨d1, h1, q3⟩ := q2.pk
  obtain ⟨d2, h2, q4⟩ := q3.pk
  obtain ⟨s, ho, q5⟩ := q4.opt
  exact h x y H2 Q d1 d2 s (pk_rd n1 R2 E2 h1) (pk_rd n2 R2 (Ext.refl _) h2) ho (hk s ρ2 H2 R2 (E1.trans E2) q5)
theorem bind_self {α : Type} (r : Out α) : (r >>= fun p => Out.ok p) = r := by cases r <;> rfl
theorem e_cmp {op : CmpOp} {od : D → D → Option Bool} {fa fb : Ex} (ho : ∀ X, At g X → OpB X (compareOp op) od) (ha : EOk g a fa) (hb : EOk g b fb) (hm : behindInMarks op b = false := by first | exact nomark _ | rfl) : EOk g (.Compare a [op] [b] pos) (bE (t2 od fa fb)) := fun X W A tk => by
  obtain ⟨r, hr, h⟩ := ho X A
  exact PE.imp (pe_cmpR hr (ha.n A tk) (hb.n A tk) hm) fun σ H Q ⟨ρ, R, q⟩ => readC h R q fun b ρ2 H2 R2 E2 q => q H2 (Ext.refl _) R2 _ rfl
theorem t_cmp {op : CmpOp} {od : D → D → Option Bool} {fa fb : Ex} (ho : ∀ X, At g X → OpB X (compareOp op) od) (ha : EOk g a fa) (hb : EOk g b fb) (hm : behindInMarks op b = false := by first | exact nomark _ | rfl) : TOk g (.Compare a [op] [b] pos) (t2 od fa fb) := fun X W A tk => by
  obtain ⟨r, hr, h⟩ := ho X A
  refine PT.imp (pt_cmpR hr (ha.n A tk) (hb.n A tk) hm) fun σ H Q ⟨ρ, R, q⟩ => ?_
  refine readC h R (G := fun p H' => ER X.K g p.2 σ H' → Q p.1 H') (k := fun p => .ok p) (by rw [bind_self]; exact q) fun b ρ2 H2 R2 E2 q => ⟨b, rfl, q H2 (Ext.refl _) R2⟩
def tCh (od od' : D → D → Option Bool) (fa fb fc : Ex) : Tx := fun ρ => fa ρ >>= fun p => fb p.2 >>= fun q => pk q.2 p.1 >>= fun d1 => pk q.2 q.1 >>= fun d2 => liftO (od d1 d2) >>= fun k =>
  if k = true then fc q.2 >>= fun r => pk r.2 q.1 >>= fun d2 => pk r.2 r.1 >>= fun d3 => liftO (od' d2 d3) >>= fun k' => .ok (k', r.2) else .ok (false, q.2)
theorem readCh {X : Cx} {W : WX} {r r' : R2} {od od' : D → D → Option Bool} {fa fb fc : Ex} {σ : L2.St} {H : Hp} {Q : VK} {ρ : Rho}
    (h : ∀ (x y : V) (H : Hp) (Q : VK) (d1 d2 : D) (k : Bool), Rd X.K H d1 x → Rd X.K H d2 y → od d1 d2 = some k → Q (.bl k) H → r x y H Q)
    (h' : ∀ (x y : V) (H : Hp) (Q : VK) (d1 d2 : D) (k : Bool), Rd X.K H d1 x → Rd X.K H d2 y → od' d1 d2 = some k → Q (.bl k) H → r' x y H Q)
    (R : ER X.K g ρ σ H) (t : Pst X.K g σ H W (fun p H' => ER X.K g p.2 σ H' → Q (.bl p.1) H') (tCh od od' fa fb fc ρ)) : tChain r r' (tN X.K g fa W) (tN X.K g fb W) (tN X.K g fc W) σ H Q := by
  refine tN_step R t fun s1 ρ1 x H1 R1 E1 n1 q1 => tN_step R1 q1 fun s2 ρ2 y H2 R2 E2 n2 q2 => ?_
  obtain ⟨d1, h1, q3⟩ := q2.pk
  obtain ⟨d2, h2, q4⟩ := q3.pk
  obtain ⟨k, ho, q5⟩ := q4.opt
  refine h x y H2 _ d1 d2 k (pk_rd n1 R2 E2 h1) (pk_rd n2 R2 (Ext.refl _) h2) ho ⟨k, rfl, ?_⟩
  cases k with
  | false => exact iteF (q5 H2 (Ext.refl _) R2)
  | true =>
    refine iteT (tN_step R2 q5 fun s3 ρ3 z H3 R3 E3 n3 q6 => ?_)
    obtain ⟨d2', h2', q7⟩ := q6.pk
    obtain ⟨d3, h3, q8⟩ := q7.pk
    obtain ⟨k', ho', q9⟩ := q8.opt
    exact h' y z H3 Q d2' d3 k' (pk_rd n2 R3 E3 h2') (pk_rd n3 R3 (Ext.refl _) h3) ho' (q9 H3 (Ext.refl _) R3)
theorem e_chain {op op' : CmpOp} {od od' : D → D → Option Bool} {fa fb fc : Ex} (ho : ∀ X, At g X → OpB X (compareOp op) od) (ho' : ∀ X, At g X → OpB X (compareOp op') od') (ha : EOk g a fa) (hb : EOk g b fb) (hc : EOk g c fc)
    (hm : lastMarks [op, op'] [b, c] = false := by with_unfolding_all rfl) : EOk g (.Compare a [op, op'] [b, c] pos) (bE (tCh od od' fa fb fc)) := fun X W A tk => by
  obtain ⟨r, hr, h⟩ := ho X A
  obtain ⟨r', hr', h'⟩ := ho' X A
  refine PE.imp (pe_chain hr hr' (ha.n A tk) (hb.n A tk) (hc.n A tk) hm) fun σ H Q ⟨ρ, R, q⟩ => readCh h h' R ?_
  unfold bE at q
  cases ht : tCh od od' fa fb fc ρ with
  | stuck => rw [ht] at q; exact q
  | exc c ρ1 => rw [ht] at q; exact q
  | ok p => rw [ht] at q; exact fun H' e R' => q H' e R' _ rfl
theorem t_chain {op op' : CmpOp} {od od' : D → D → Option Bool} {fa fb fc : Ex} (ho : ∀ X, At g X → OpB X (compareOp op) od) (ho' : ∀ X, At g X → OpB X (compareOp op') od') (ha : EOk g a fa) (hb : EOk g b fb) (hc : EOk g c fc)
    (hm : lastMarks [op, op'] [b, c] = false := by with_unfolding_all rfl) : TOk g (.Compare a [op, op'] [b, c] pos) (tCh od od' fa fb fc) := fun X W A tk => by
  obtain ⟨r, hr, h⟩ := ho X A
  obtain ⟨r', hr', h'⟩ := ho' X A
  refine PT.imp (pt_chain hr hr' (ha.n A tk) (hb.n A tk) (hc.n A tk) hm) fun σ H Q ⟨ρ, R, q⟩ => readCh h h' R ?_
  cases ht : tCh od od' fa fb fc ρ with
  | stuck => rw [ht] at q; exact q
  | exc c ρ1 => rw [ht] at q; exact q
  | ok p => rw [ht] at q; exact fun H' e R' => ⟨_, rfl, q H' e R'⟩
/-! ### and, or, not, if -/
def WOk (g : Cf) (e : Expr) (f : Tx) : Prop := ∀ (X : Cx) (W : WX), At g X → Takes X W → PW X e (tT X.K g f W)
theorem PW.imp {X : Cx} {e : Expr} {t t' : TT} (h : PW X e t) (hi : ∀ σ H Q, t' σ H Q → t σ H Q) : PW X e t' := ⟨fun wh pins s σ H Q I q => h.run wh pins s σ H Q I (hi σ H Q q)⟩
def tAnd (t u : Tx) : Tx := fun ρ => t ρ >>= fun p => if p.1 = true then u p.2 else .ok (false, p.2)
def tOr (t u : Tx) : Tx := fun ρ => t ρ >>= fun p => if p.1 = true then .ok (true, p.2) else u p.2
def tNot (t : Tx) : Tx := fun ρ => t ρ >>= fun p => .ok (!p.1, p.2)
theorem w_and1 {t : Tx} (h : TOk g a t) : WOk g (.BoolOp .And [a] pos) t := fun X W A tk => pw_and1 (h X W A tk)
theorem w_or1 {t : Tx} (h : TOk g a t) : WOk g (.BoolOp .Or [a] pos) t := fun X W A tk => pw_or1 (h X W A tk)
theorem w_and {t u : Tx} (h : TOk g a t) (h2 : WOk g (.BoolOp .And (b :: rest) pos) u) : WOk g (.BoolOp .And (a :: b :: rest) pos) (tAnd t u) := fun X W A tk => by
  refine PW.imp (pw_and (h X W A tk) (h2 X W A tk)) fun σ H Q ⟨ρ, R, q⟩ => tT_step R q fun k ρ1 H1 R1 E1 q1 => ?_
  cases k with
  | true => exact iteT ⟨ρ1, R1, q1⟩
  | false => exact iteF (q1 H1 (Ext.refl _) R1)
theorem w_or {t u : Tx} (h : TOk g a t) (h2 : WOk g (.BoolOp .Or (b :: rest) pos) u) : WOk g (.BoolOp .Or (a :: b :: rest) pos) (tOr t u) := fun X W A tk => by
  refine PW.imp (pw_or (h X W A tk) (h2 X W A tk)) fun σ H Q ⟨ρ, R, q⟩ => tT_step R q fun k ρ1 H1 R1 E1 q1 => ?_
  cases k with
  | true => exact iteT (q1 H1 (Ext.refl _) R1)
  | false => exact iteF ⟨ρ1, R1, q1⟩
theorem t_w {t : Tx} (h : WOk g e t) : TOk g e t := fun X W A tk => (h X W A tk).pt
theorem t_not {t : Tx} (h : TOk g a t) : TOk g (.UnaryOp .Not a pos) (tNot t) := fun X W A tk =>
  PT.imp (pt_not (h X W A tk)) fun σ H Q ⟨ρ, R, q⟩ => tT_step R q fun k ρ1 H1 R1 E1 q1 => q1 H1 (Ext.refl _) R1
/-- .. as values, of bools -/
def eAnd (fa fb : Ex) : Ex := fun ρ => fa ρ >>= fun p => pk p.2 p.1 >>= fun d => match d with
  | .bl true => fb p.2
  | .bl false => .ok (.v (.bl false), p.2)
  | _ => .stuck
def eOr (fa fb : Ex) : Ex := fun ρ => fa ρ >>= fun p => pk p.2 p.1 >>= fun d => match d with
  | .bl true => .ok (.v (.bl true), p.2)
  | .bl false => fb p.2
  | _ => .stuck
def eNot (fa : Ex) : Ex := fun ρ => fa ρ >>= fun p => pk p.2 p.1 >>= fun d => match d with
  | .bl k => .ok (.v (.bl (!k)), p.2)
  | _ => .stuck
theorem e_one {op : BoolOp} {fa : Ex} (h : EOk g a fa) : EOk g (.BoolOp op [a] pos) fa := fun X W A tk => pe_one (h X W A tk)
theorem e_and {fa fb : Ex} (h : EOk g a fa) (h2 : EOk g (.BoolOp .And (b :: rest) pos) fb) : EOk g (.BoolOp .And (a :: b :: rest) pos) (eAnd fa fb) := fun X W A tk => by
  refine PE.imp (pe_and (h.n A tk) (h2 X W A tk)) fun σ H Q ⟨ρ, R, q⟩ => tN_step R q fun s1 ρ1 x H1 R1 E1 n1 q1 => ?_
  obtain ⟨d1, h1, q3⟩ := q1.pk
  have rd := pk_rd n1 R1 (Ext.refl _) h1
  cases d1 with
  | bl k =>
    refine ⟨k, rd.bl, ?_⟩
    cases k with
    | true => exact iteT ⟨ρ1, R1, q3⟩
    | false => exact iteF (q3 H1 (Ext.refl _) R1 _ rfl)
  | _ => exact q3.elim
theorem e_or {fa fb : Ex} (h : EOk g a fa) (h2 : EOk g (.BoolOp .Or (b :: rest) pos) fb) : EOk g (.BoolOp .Or (a :: b :: rest) pos) (eOr fa fb) := fun X W A tk => by
  refine PE.imp (pe_or (h.n A tk) (h2 X W A tk)) fun σ H Q ⟨ρ, R, q⟩ => tN_step R q fun s1 ρ1 x H1 R1 E1 n1 q1 => ?_
  obtain ⟨d1, h1, q3⟩ := q1.pk
  have rd := pk_rd n1 R1 (Ext.refl _) h1
  cases d1 with
  | bl k =>
    refine ⟨k, rd.bl, ?_⟩
    cases k with
    | true => exact iteT (q3 H1 (Ext.refl _) R1 _ rfl)
    | false => exact iteF ⟨ρ1, R1, q3⟩
  | _ => exact q3.elim
theorem e_not {fa : Ex} (h : EOk g a fa) : EOk g (.UnaryOp .Not a pos) (eNot fa) := fun X W A tk => by
  refine PE.imp (pe_not (h.n A tk)) fun σ H Q ⟨ρ, R, q⟩ => tN_step R q fun s1 ρ1 x H1 R1 E1 n1 q1 => ?_
  obtain ⟨d1, h1, q3⟩ := q1.pk
  have rd := pk_rd n1 R1 (Ext.refl _) h1
  cases d1 with
  | bl k => exact ⟨k, rd.bl, q3 H1 (Ext.refl _) R1 _ rfl⟩
  | _ => exact q3.elim
def eIf (t : Tx) (fa fb : Ex) : Ex := fun ρ => t ρ >>= fun p => if p.1 = true then fa p.2 else fb p.2
theorem tE_ext {K : PySem.W.Frag} {f : Ex} {W : WX} {σ : L2.St} {H : Hp} {Q : VK} {ρ : Rho} (R : ER K g ρ σ H) (q : Pst K g σ H W (fun p H' => ER K g p.2 σ H' → ∀ x, SR K g p.2 σ H' p.1 x → Q x H') (f ρ)) : tE K g f W σ H Q := ⟨ρ, R, q⟩
theorem e_if {t : Tx} {fa fb : Ex} (h : TOk g c t) (ha : EOk g a fa) (hb : EOk g b fb) : EOk g (.IfExp c a b pos) (eIf t fa fb) := fun X W A tk => by
  refine PE.imp (pe_ifExp (h X W A tk) (ha X W A tk) (hb X W A tk)) fun σ H Q ⟨ρ, R, q⟩ => tT_step R q fun k ρ1 H1 R1 E1 q1 => ?_
  cases k with
  | true => exact iteT ⟨ρ1, R1, q1⟩
  | false => exact iteF ⟨ρ1, R1, q1⟩
end
end PL

namespace PL
open PySem PySem.Spec PyProof.Rows L2
/-! ### locks of own objects -/
theorem lock_slot {K : PySem.W.Frag} {g : Cf} {ρ : Rho} {σ : L2.St} {H : Hp} {i : Nat} {d : D} (R : ER K g ρ σ H) (hi : ρ[i]? = some (some (.o d))) (hio : i ∉ g.ios) :
    ∃ a u, σ[i]? = some (some (.ref a)) ∧ H a = some u ∧ Mut (some u) ∧ ∀ od, ER K g (ρ.set i (some (.v d))) σ (upd H a (.frz od u)) ∧ Ext H (upd H a (.frz od u)) ∧ Imm K (upd H a (.frz od u)) d (.ref a) := by
  obtain ⟨a, ha, o⟩ := R.own i d hi
  obtain ⟨u, hu, mu⟩ := o.some
  refine ⟨a, u, ha, hu, mu, fun od => ?_⟩
  have x : Ext H (upd H a (.frz od u)) := fun b ob hb => by
    by_cases hba : b = a
    · subst hba
      rw [hu] at hb; cases hb
      exact ⟨fun xs e => by subst e; exact mu.elim, fun _ _ e => by subst e; exact mu.elim⟩
    · exact ⟨fun _ _ => by rw [upd_ne hba]; exact hb, fun _ _ _ => by rw [upd_ne hba]; exact hb⟩
  have im : Imm K (upd H a (.frz od u)) d (.ref a) := by
    cases d with
    | lst ds =>
      obtain ⟨vs, h1, h2⟩ := o
      rw [hu] at h1; cases h1
      exact ⟨a, vs, rfl, ⟨od, upd_same⟩, ImmL.ext x ds vs h2⟩
    | dic t kvs =>
      cases t with
      | false =>
        obtain ⟨kws, h1, h2⟩ := o
        rw [hu] at h1; cases h1
        exact ⟨a, od, kws, rfl, upd_same, ImmK.ext x kvs kws h2⟩
      | true =>
        obtain ⟨kws, h1, h2⟩ := o
        rw [hu] at h1; cases h1
        exact ⟨a, od, kws, rfl, upd_same, ImmT.ext x kvs kws h2⟩
    | _ => exact o.elim
  have hlt : i < ρ.length := by
    rcases Nat.lt_or_ge i ρ.length with h | h
    · exact h
    · rw [List.getElem?_eq_none h] at hi; cases hi
  have notio : ∀ j, (j, a) ∉ g.io := fun j hj => by
    obtain ⟨h1, d', h2⟩ := R.io _ hj
    have := R.sep i j d d' a hi h2 ha h1
    subst this
    exact hio (List.mem_map.mpr ⟨_, hj, rfl⟩)
  have h0 : g.H0 a = none := (R.new i d a hi ha).elim id fun z => (notio i z).elim
  refine ⟨⟨by rw [List.length_set]; exact R.len, fun j e hj => ?_, fun j e hj => ?_, fun j m hj => ?_, fun j m e e' b hj hm => ?_, fun b ob hb hp => ?_, fun j e b hj hb => ?_, fun p hp => ?_⟩, x, im⟩
  · by_cases hji : j = i
    · subst hji
      rw [List.getElem?_set_self hlt] at hj
      cases hj
      exact ⟨_, ha, im⟩
    · rw [List.getElem?_set_ne (Ne.symm hji)] at hj
      obtain ⟨y, h1, h2⟩ := R.val j e hj
      exact ⟨y, h1, Imm.ext x e y h2⟩
  · have hji : j ≠ i := fun z => by
      subst z
      rw [List.getElem?_set_self hlt] at hj
      cases hj
    rw [List.getElem?_set_ne (Ne.symm hji)] at hj
    obtain ⟨b, h1, h2⟩ := R.own j e hj
    have hb : b ≠ a := fun z => by
      subst z
      exact hji (R.sep j i e d b hj hi h1 ha)
    exact ⟨b, h1, h2.ext x (upd_ne hb)⟩
  · by_cases hji : j = i
    · subst hji
      rw [List.getElem?_set_self hlt] at hj
      cases hj
    · rw [List.getElem?_set_ne (Ne.symm hji)] at hj
      exact R.bor j m hj
  · have hji : j ≠ i := fun z => by subst z; rw [List.getElem?_set_self hlt] at hj; cases hj
    have hmi : m ≠ i := fun z => by subst z; rw [List.getElem?_set_self hlt] at hm; cases hm
    rw [List.getElem?_set_ne (Ne.symm hji)] at hj
    rw [List.getElem?_set_ne (Ne.symm hmi)] at hm
    exact R.sep j m e e' b hj hm
  · rw [upd_ne (fun z => by rw [z, h0] at hb; cases hb)]
    exact R.old b ob hb hp
  · have hji : j ≠ i := fun z => by subst z; rw [List.getElem?_set_self hlt] at hj; cases hj
    rw [List.getElem?_set_ne (Ne.symm hji)] at hj
    exact R.new j e b hj hb
  · obtain ⟨h1, d', h2⟩ := R.io p hp
    refine ⟨h1, ?_⟩
    have hpi : p.1 ≠ i := fun z => hio (List.mem_map.mpr ⟨p, hp, z⟩)
    rw [List.getElem?_set_ne (Ne.symm hpi)]
    exact ⟨d', h2⟩
/-- a value is shared: locked if it is an own object -/
theorem fz_ok {X : Cx} {g : Cf} {pins : List (Addr × Obj)} {σ : L2.St} {H : Hp} {s : Shared} {z : S} {x : V} {ρ ρ' : Rho} {d : D} (I : Inv X pins σ H s) (R : ER X.K g ρ σ H) (n : NR X.K σ H z x) (h : fz g.ios z ρ = .ok (d, ρ')) :
    ∃ H', Inv X pins σ H' s ∧ ER X.K g ρ' σ H' ∧ Ext H H' ∧ Imm X.K H' d x := by
  cases z with
  | v d' => cases h; exact ⟨H, I, R, Ext.refl H, n⟩
  | o d' => cases h; exact ⟨H, I, R, Ext.refl H, n⟩
  | b i =>
    have n1 : σ[i]? = some (some x) := n
    simp only [fz] at h
    split at h
    · cases h
    · rename_i hio
      cases hs : ρ[i]? with
      | none => simp only [hs] at h; cases h
      | some o =>
        cases o with
        | none => simp only [hs] at h; cases h
        | some w =>
          cases w with
          | b j => simp only [hs] at h; cases h
          | v d' =>
            simp only [hs] at h
            cases h
            obtain ⟨y, h1, h2⟩ := R.val i _ hs
            rw [n1] at h1; cases h1
            exact ⟨H, I, R, Ext.refl H, h2⟩
          | o d' =>
            simp only [hs] at h
            cases h
            obtain ⟨a, u, ha, hu, mu, F⟩ := lock_slot R hs hio
            rw [n1] at ha; cases ha
            obtain ⟨od, I2⟩ := I.lock hu mu
            obtain ⟨R2, e2, im⟩ := F od
            exact ⟨_, I2, R2, e2, im⟩
theorem fz_noexc {l : List Nat} {ρ ρ' : Rho} {s : S} {c : Str} (h : fz l s ρ = .exc c ρ') : False := by
  cases s with
  | v d => cases h
  | o d => cases h
  | b i =>
    simp only [fz] at h
    split at h
    · cases h
    · split at h <;> cases h
def fzL (l : List Nat) : List S → Rho → Out (List D × Rho)
  | [], ρ => .ok ([], ρ)
  | s :: ss, ρ => fz l s ρ >>= fun p => fzL l ss p.2 >>= fun q => .ok (p.1 :: q.1, q.2)
def NRL (K : PySem.W.Frag) (σ : L2.St) (H : Hp) : List S → List V → Prop
  | [], xs => xs = []
  | s :: ss, xs => ∃ x r, xs = x :: r ∧ NR K σ H s x ∧ NRL K σ H ss r
theorem NR.ext {K : PySem.W.Frag} {σ : L2.St} {H H' : Hp} (e : Ext H H') : ∀ {s : S} {x : V}, NR K σ H s x → NR K σ H' s x
  | .v d, x, h => Imm.ext e d x h
  | .o d, x, h => Imm.ext e d x h
  | .b i, x, h => h
theorem NRL.ext {K : PySem.W.Frag} {σ : L2.St} {H H' : Hp} (e : Ext H H') : ∀ {s : List S} {x : List V}, NRL K σ H s x → NRL K σ H' s x
  | [], x, h => h
  | s :: ss, x, ⟨y, r, h1, h2, h3⟩ => ⟨y, r, h1, NR.ext e h2, NRL.ext e h3⟩
theorem fzL_noexc {l : List Nat} : ∀ {ss : List S} {ρ ρ' : Rho} {c : Str}, fzL l ss ρ = .exc c ρ' → False
  | [], _, _, _, h => nomatch h
  | s :: ss, ρ, ρ', c, h => by
    unfold fzL at h
    cases hs : fz l s ρ with
    | stuck => rw [hs] at h; cases h
    | exc c ρ' => exact fz_noexc hs
    | ok p =>
      rw [hs] at h
      simp only [bind_ok] at h
      cases hr : fzL l ss p.2 with
      | stuck => rw [hr] at h; cases h
      | exc c ρ' => exact fzL_noexc hr
      | ok q => rw [hr] at h; cases h
theorem fzL_ok {X : Cx} {g : Cf} {pins : List (Addr × Obj)} {σ : L2.St} {s : Shared} : ∀ {zs : List S} {xs : List V} {H : Hp} {ρ ρ' : Rho} {ds : List D}, Inv X pins σ H s → ER X.K g ρ σ H → NRL X.K σ H zs xs → fzL g.ios zs ρ = .ok (ds, ρ') →
    ∃ H', Inv X pins σ H' s ∧ ER X.K g ρ' σ H' ∧ Ext H H' ∧ ImmL X.K H' ds xs
  | [], xs, H, ρ, ρ', ds, I, R, n, h => by cases h; exact ⟨H, I, R, Ext.refl H, n⟩
  | z :: zs, xs, H, ρ, ρ', ds, I, R, ⟨y, r, h1, h2, h3⟩, h => by
    subst h1
    unfold fzL at h
    cases hs : fz g.ios z ρ with
    | stuck => rw [hs] at h; cases h
    | exc c ρ' => exact (fz_noexc hs).elim
    | ok p =>
      rw [hs] at h
      simp only [bind_ok] at h
      cases hr : fzL g.ios zs p.2 with
      | stuck => rw [hr] at h; cases h
      | exc c ρ' => exact (fzL_noexc hr).elim
      | ok q =>
        rw [hr] at h
        cases h
        obtain ⟨H1, I1, R1, E1, im1⟩ := fz_ok I R h2 (d := p.1) (ρ' := p.2) hs
        obtain ⟨H2, I2, R2, E2, im2⟩ := fzL_ok I1 R1 (NRL.ext E1 h3) (ds := q.1) (ρ' := q.2) hr
        exact ⟨H2, I2, R2, E1.trans E2, y, r, rfl, Imm.ext E2 _ _ im1, im2⟩
theorem Pst.fz {K : PySem.W.Frag} {g : Cf} {σ : L2.St} {H : Hp} {W : WX} {β : Type} {G : β → Hp → Prop} {l : List Nat} {ρ : Rho} {s : S} {k : D × Rho → Out β} (q : Pst K g σ H W G (PL.fz l s ρ >>= k)) : ∃ p, PL.fz l s ρ = .ok p ∧ Pst K g σ H W G (k p) := by
  cases h : PL.fz l s ρ with
  | stuck => rw [h] at q; exact q.elim
  | exc c ρ' => exact (fz_noexc h).elim
  | ok d => rw [h] at q; exact ⟨d, rfl, q⟩
theorem Pst.fzL {K : PySem.W.Frag} {g : Cf} {σ : L2.St} {H : Hp} {W : WX} {β : Type} {G : β → Hp → Prop} {l : List Nat} {ρ : Rho} {s : List S} {k : List D × Rho → Out β} (q : Pst K g σ H W G (PL.fzL l s ρ >>= k)) : ∃ p, PL.fzL l s ρ = .ok p ∧ Pst K g σ H W G (k p) := by
  cases h : PL.fzL l s ρ with
  | stuck => rw [h] at q; exact q.elim
  | exc c ρ' => exact (fzL_noexc h).elim
  | ok d => rw [h] at q; exact ⟨d, rfl, q⟩
section
variable {g : Cf} {e a b c : Expr} {es : List Expr} {pos : Pos}
/-- an expression whose value is shared -/
def eF (l : List Nat) (f : Ex) : Rho → Out (D × Rho) := fun ρ => f ρ >>= fun p => fz l p.1 p.2
def tF (K : PySem.W.Frag) (g : Cf) (f : Ex) (W : WX) : TE := fun σ H Q => ∃ ρ, ER K g ρ σ H ∧ Pst K g σ H W (fun p H' => ER K g p.2 σ H' → ∀ x, Imm K H' p.1 x → Q x H') (eF g.ios f ρ)
theorem EOk.f {f : Ex} (h : EOk g e f) {X : Cx} {W : WX} (A : At g X) (tk : Takes X W) : PE X e (tF X.K g f W) := by
  refine ⟨fun pins s σ H Q I ⟨ρ, R, q⟩ => ?_⟩
  have hN := (h.n A tk).run pins s σ H (fun x H' => ∃ z ρ1 p, ER X.K g ρ1 σ H' ∧ NR X.K σ H' z x ∧ fz g.ios z ρ1 = .ok p ∧ ∀ H2, Ext H' H2 → ER X.K g p.2 σ H2 → ∀ x, Imm X.K H2 p.1 x → Q x H2) I (by
    refine tN_step R q fun z ρ1 x H1 R1 E1 n1 q1 => ?_
    cases hf : fz g.ios z ρ1 with
    | stuck => rw [hf] at q1; exact q1.elim
    | exc c ρ' => exact (fz_noexc hf).elim
    | ok p => rw [hf] at q1; exact ⟨z, ρ1, p, R1, n1, hf, q1⟩)
  refine thn hN fun u s1 ⟨x, H1, I1, r1, z, ρ1, p, R1, n1, hf, q1⟩ => ?_
  obtain ⟨H2, I2, R2, E2, im⟩ := fz_ok I1 R1 n1 (d := p.1) (ρ' := p.2) hf
  exact ⟨x, H2, I2, r1, q1 H2 E2 R2 x im⟩
theorem tF_step {K : PySem.W.Frag} {σ : L2.St} {H : Hp} {W : WX} {β : Type} {G : β → Hp → Prop} {ρ : Rho} {fa : Ex} {k : D × Rho → Out β} {Q : VK} (R : ER K g ρ σ H) (q : Pst K g σ H W G (eF g.ios fa ρ >>= k))
    (h : ∀ d ρ1 x H1, ER K g ρ1 σ H1 → Ext H H1 → Imm K H1 d x → Pst K g σ H1 W G (k (d, ρ1)) → Q x H1) : tF K g fa W σ H Q := by
  refine ⟨ρ, R, ?_⟩
  cases ha : eF g.ios fa ρ with
  | stuck => rw [ha] at q; exact q.elim
  | exc c ρ1 => rw [ha] at q; exact q
  | ok p =>
    rw [ha] at q
    exact fun H1 E1 R1 x n => h p.1 p.2 x H1 R1 E1 n (Pst.ext E1 (r := k p) q)

/-! ### argument lists -/
abbrev Ax := Rho → Out (List S × Rho)
def tA (K : PySem.W.Frag) (g : Cf) (f : Ax) (W : WX) : TA := fun σ H Q => ∃ ρ, ER K g ρ σ H ∧ Pst K g σ H W (fun p H' => ER K g p.2 σ H' → ∀ x, NRL K σ H' p.1 x → Q x H') (f ρ)
def AOk (g : Cf) (es : List Expr) (f : Ax) : Prop := ∀ (X : Cx) (W : WX), At g X → Takes X W → PA X es (tA X.K g f W)
def aNil : Ax := fun ρ => .ok ([], ρ)
def aCons (f : Ex) (r : Ax) : Ax := fun ρ => f ρ >>= fun p => r p.2 >>= fun q => .ok (p.1 :: q.1, q.2)
theorem tA_step {K : PySem.W.Frag} {σ : L2.St} {H : Hp} {W : WX} {β : Type} {G : β → Hp → Prop} {ρ : Rho} {fa : Ax} {k : List S × Rho → Out β} {Q : List V → Hp → Prop} (R : ER K g ρ σ H) (q : Pst K g σ H W G (fa ρ >>= k))
    (h : ∀ s ρ1 x H1, ER K g ρ1 σ H1 → Ext H H1 → NRL K σ H1 s x → Pst K g σ H1 W G (k (s, ρ1)) → Q x H1) : tA K g fa W σ H Q := by
  refine ⟨ρ, R, ?_⟩
  cases ha : fa ρ with
  | stuck => rw [ha] at q; exact q.elim
  | exc c ρ1 => rw [ha] at q; exact q
  | ok p =>
    rw [ha] at q
    exact fun H1 E1 R1 x n => h p.1 p.2 x H1 R1 E1 n (Pst.ext E1 (r := k p) q)
theorem a_nil : AOk g [] aNil := fun X W A tk => PA.imp pa_nil fun σ H Q ⟨ρ, R, q⟩ => q H (Ext.refl H) R [] rfl
theorem a_cons {f : Ex} {r : Ax} (h : EOk g e f) (hr : AOk g es r) (hs : ∀ env, starEach (e :: es) env = (false, eval e env) :: starEach es env := by intro _; rfl) : AOk g (e :: es) (aCons f r) := fun X W A tk => by
  refine PA.imp (pa_cons (h.n A tk) (hr X W A tk) (hs _)) fun σ H Q ⟨ρ, R, q⟩ => tN_step R q fun s1 ρ1 x H1 R1 E1 n1 q1 => tA_step R1 q1 fun s2 ρ2 xs H2 R2 E2 n2 q2 => ?_
  exact q2 H2 (Ext.refl _) R2 _ ⟨x, xs, rfl, NR.ext E2 n1, n2⟩
/-- .. all of them shared -/
def aF (l : List Nat) (f : Ax) : Rho → Out (List D × Rho) := fun ρ => f ρ >>= fun p => fzL l p.1 p.2
def tAF (K : PySem.W.Frag) (g : Cf) (f : Ax) (W : WX) : TA := fun σ H Q => ∃ ρ, ER K g ρ σ H ∧ Pst K g σ H W (fun p H' => ER K g p.2 σ H' → ∀ x, ImmL K H' p.1 x → Q x H') (aF g.ios f ρ)
theorem AOk.f {f : Ax} (h : AOk g es f) {X : Cx} {W : WX} (A : At g X) (tk : Takes X W) : PA X es (tAF X.K g f W) := by
  refine ⟨fun pos pins s σ H Q I ⟨ρ, R, q⟩ => ?_⟩
  have hN := (h X W A tk).run pos pins s σ H (fun x H' => ∃ z ρ1 p, ER X.K g ρ1 σ H' ∧ NRL X.K σ H' z x ∧ fzL g.ios z ρ1 = .ok p ∧ ∀ H2, Ext H' H2 → ER X.K g p.2 σ H2 → ∀ x, ImmL X.K H2 p.1 x → Q x H2) I (by
    refine tA_step R q fun z ρ1 x H1 R1 E1 n1 q1 => ?_
    cases hf : fzL g.ios z ρ1 with
    | stuck => rw [hf] at q1; exact q1.elim
    | exc c ρ' => exact (fzL_noexc hf).elim
    | ok p => rw [hf] at q1; exact ⟨z, ρ1, p, R1, n1, hf, q1⟩)
  refine thn hN fun u s1 ⟨x, H1, I1, r1, z, ρ1, p, R1, n1, hf, q1⟩ => ?_
  obtain ⟨H2, I2, R2, E2, im⟩ := fzL_ok I1 R1 n1 (ds := p.1) (ρ' := p.2) hf
  exact ⟨x, H2, I2, r1, q1 H2 E2 R2 x im⟩
theorem tAF_step {K : PySem.W.Frag} {σ : L2.St} {H : Hp} {W : WX} {β : Type} {G : β → Hp → Prop} {ρ : Rho} {fa : Ax} {k : List D × Rho → Out β} {Q : List V → Hp → Prop} (R : ER K g ρ σ H) (q : Pst K g σ H W G (aF g.ios fa ρ >>= k))
    (h : ∀ s ρ1 x H1, ER K g ρ1 σ H1 → Ext H H1 → ImmL K H1 s x → Pst K g σ H1 W G (k (s, ρ1)) → Q x H1) : tAF K g fa W σ H Q := by
  refine ⟨ρ, R, ?_⟩
  cases ha : aF g.ios fa ρ with
  | stuck => rw [ha] at q; exact q.elim
  | exc c ρ1 => rw [ha] at q; exact q
  | ok p =>
    rw [ha] at q
    exact fun H1 E1 R1 x n => h p.1 p.2 x H1 R1 E1 n (Pst.ext E1 (r := k p) q)
/-! ### displays -/
def eTup (l : List Nat) (f : Ax) : Ex := fun ρ => aF l f ρ >>= fun p => if p.1.length ≤ 16777216 then .ok (.v (.tup p.1), p.2) else .stuck
def eLst (l : List Nat) (f : Ax) : Ex := fun ρ => aF l f ρ >>= fun p => if p.1.length ≤ 16777216 then .ok (.o (.lst p.1), p.2) else .stuck
theorem new_tup {K : PySem.W.Frag} {H : Hp} {p : Addr} {o : HO} (h : H p = none) : Same H (upd H p o) := fun b x e => by
  rw [upd_ne (ne_of_none e h)]
  exact e
theorem line_le {n : Nat} (h : n ≤ 16777216) : n ≤ sizeLine := by rw [sizeLine_eq]; exact h
theorem e_tup {f : Ax} {x1 : Nat} (h : AOk g es f) : EOk g (.Tuple es x1 pos) (eTup g.ios f) := fun X W A tk => by
  refine PE.imp (pe_tup (h.f A tk)) fun σ H Q ⟨ρ, R, q⟩ => tAF_step R q fun ds ρ1 xs H1 R1 E1 im q1 => ?_
  dsimp only at q1
  split at q1
  · rename_i hl
    refine ⟨line_le (by rw [im.len]; exact hl), fun p hp => ?_⟩
    have sm : Same H1 (upd H1 p (.tup xs)) := new_tup (K := X.K) hp
    exact q1 _ (Ext.of_same sm) (R1.same sm) _ ⟨p, xs, rfl, TpT.of upd_same, ImmL.ext (Ext.of_same sm) _ _ im⟩
  · exact q1.elim
theorem e_lst {f : Ax} (h : AOk g es f) : EOk g (.List es pos) (eLst g.ios f) := fun X W A tk => by
  refine PE.imp (pe_lst (h.f A tk)) fun σ H Q ⟨ρ, R, q⟩ => tAF_step R q fun ds ρ1 xs H1 R1 E1 im q1 => ?_
  dsimp only at q1
  split at q1
  · rename_i hl
    refine ⟨line_le (by rw [im.len]; exact hl), fun p hp => ?_⟩
    have sm : Same H1 (upd H1 p (.lst xs)) := new_tup (K := X.K) hp
    exact q1 _ (Ext.of_same sm) (R1.same sm) _ ⟨p, rfl, ⟨xs, upd_same, ImmL.ext (Ext.of_same sm) _ _ im⟩, not_own R1 hp, not_old R1 hp⟩
  · exact q1.elim
end
end PL

namespace PL
open PySem PySem.Spec PyProof.Rows L2
/-! ### equality of plain values -/
mutual
def toPy : D → PyData
  | .non => .none
  | .bl b => .bool b
  | .int i => .int i
  | .str x => .str x
  | .tup ds => .tuple (toPyL ds)
  | .lst ds => .list (toPyL ds)
  | .dic _ _ => .dict []
  | .scr _ => .dict []
  | .ktp ds => .tuple (toPyL ds)
def toPyL : List D → List PyData
  | [] => []
  | d :: ds => toPy d :: toPyL ds
end
def shp (d : D) : Bool := SeqAt.shaped (toPy d)
def eqD (d e : D) : Bool := PyData.eqv (toPy d) (toPy e)
mutual
theorem dp_imm {K : PySem.W.Frag} {H : Hp} : ∀ {d : D} {x : V}, Imm K H d x → PyData.canLay0 (toPy d) = true → Dp K H x (toPy d)
  | .non, _, h, _ => by cases (show _ = _ from h); exact .non
  | .bl b, _, h, _ => by cases (show _ = _ from h); exact .bl b
  | .int b, _, h, _ => by cases (show _ = _ from h); exact .int b
  | .str b, _, h, _ => by cases (show _ = _ from h); exact .str b
  | .tup ds, _, ⟨a, vs, e, h1, h2⟩, hc => by subst e; exact .tup h1.seq (dp_immL h2 (by simpa [toPy, PyData.canLay0] using hc))
  | .lst ds, _, ⟨a, vs, e, h1, h2⟩, hc => by subst e; exact .lst h1.seq (dp_immL h2 (by simpa [toPy, PyData.canLay0] using hc))
  | .dic _ _, _, _, hc => by simp [toPy, PyData.canLay0] at hc
  | .ktp ds, _, ⟨a, vs, e, h1, h2⟩, hc => by subst e; exact .tup h1.seq (dp_immL h2 (by simpa [toPy, PyData.canLay0] using hc))
  | .scr _, _, _, hc => by simp [toPy, PyData.canLay0] at hc
theorem dp_immL {K : PySem.W.Frag} {H : Hp} : ∀ {d : List D} {x : List V}, ImmL K H d x → PyData.canLayAll0 (toPyL d) = true → DpAll K H x (toPyL d)
  | [], _, h, _ => by cases (show _ = _ from h); exact .nil
  | d :: ds, _, ⟨v, r, e, h1, h2⟩, hc => by
    subst e
    have hc : PyData.canLay0 (toPy d) = true ∧ PyData.canLayAll0 (toPyL ds) = true := by simpa [toPyL, PyData.canLayAll0] using hc
    exact .cons (dp_imm h1 hc.1) (dp_immL h2 hc.2)
end
theorem dp_rd {K : PySem.W.Frag} {H : Hp} {d : D} {x : V} (h : Rd K H d x) (hc : PyData.canLay0 (toPy d) = true) : Dp K H x (toPy d) := by
  rcases h with h | ⟨a, e, h⟩
  · exact dp_imm h hc
  · cases d with
    | lst ds =>
      obtain ⟨vs, h1, h2⟩ := h
      subst e
      exact .lst (SqL.of h1) (dp_immL h2 (by simpa [toPy, PyData.canLay0] using hc))
    | dic t kvs => simp [toPy, PyData.canLay0] at hc
    | _ => exact h.elim
def flat : D → Bool
  | .non => true | .bl _ => true | .int _ => true | .str _ => true | _ => false
def flatX : D → D → Bool
  | .non, .non => true | .non, .int _ => true | .int _, .non => true | .non, .bl _ => true | .bl _, .non => true | .non, .str _ => true | .str _, .non => true
  | .int _, .int _ => true | .bl _, .bl _ => true | .str _, .str _ => true
  | .int _, .str _ => true | .str _, .int _ => true | .bl _, .str _ => true | .str _, .bl _ => true
  | _, _ => false
def dEq (d e : D) : Option Bool := if flatX d e = true then some (eqD d e) else if shp d = true ∧ shp e = true then some (eqD d e) else none
def dNe (d e : D) : Option Bool := (dEq d e).map (!·)
theorem flat_scal {K : PySem.W.Frag} {H : Hp} {d e : D} {x y : V} (h : flatX d e = true) (r1 : Rd K H d x) (r2 : Rd K H e y) : scal x y = true ∧ decide (x = y) = eqD d e := by
  cases d <;> cases e <;> simp only [flatX] at h <;> try (exact absurd h (by decide))
  all_goals first
    | (cases r1.non; cases r2.non; exact ⟨rfl, rfl⟩)
    | (cases r1.non; cases r2.int; exact ⟨rfl, rfl⟩)
    | (cases r1.int; cases r2.non; exact ⟨rfl, rfl⟩)
    | (cases r1.non; cases r2.bl; exact ⟨rfl, rfl⟩)
    | (cases r1.bl; cases r2.non; exact ⟨rfl, rfl⟩)
    | (cases r1.non; cases r2.str; exact ⟨rfl, rfl⟩)
    | (cases r1.str; cases r2.non; exact ⟨rfl, rfl⟩)
    | (cases r1.int; cases r2.int; exact ⟨rfl, by rw [dec_int]; rfl⟩)
    | (cases r1.bl; cases r2.bl; exact ⟨rfl, by rw [dec_bl]; rfl⟩)
    | (cases r1.str; cases r2.str; exact ⟨rfl, by rw [dec_str]; rfl⟩)
    | (cases r1.int; cases r2.str; exact ⟨rfl, rfl⟩)
    | (cases r1.str; cases r2.int; exact ⟨rfl, rfl⟩)
    | (cases r1.bl; cases r2.str; exact ⟨rfl, rfl⟩)
    | (cases r1.str; cases r2.bl; exact ⟨rfl, rfl⟩)
theorem lay_of_shp {d : D} (h : shp d = true) : PyData.canLay0 (toPy d) = true := SeqAt.canLay_of_shaped h
section
variable {g : Cf} {X : Cx}
theorem o_eq (A : At g X) : OpB X (compareOp .Eq) dEq := by
  refine ⟨_, OpR.or op_eq (op_eqD A.room.units), fun x y H Q d e k r1 r2 h q => ?_⟩
  unfold dEq at h
  split at h
  · rename_i hf
    cases h
    obtain ⟨h1, h2⟩ := flat_scal hf r1 r2
    exact .inl ⟨h1, by rw [h2]; exact q⟩
  · split at h
    · rename_i hs
      cases h
      exact .inr ⟨toPy d, toPy e, dp_rd r1 (lay_of_shp hs.1), dp_rd r2 (lay_of_shp hs.2), hs.1, hs.2, q⟩
    · cases h
theorem o_ne (A : At g X) : OpB X (compareOp .NotEq) dNe := by
  refine ⟨_, OpR.or op_ne (op_neD A.room.units), fun x y H Q d e k r1 r2 h q => ?_⟩
  unfold dNe dEq at h
  split at h
  · rename_i hf
    cases h
    obtain ⟨h1, h2⟩ := flat_scal hf r1 r2
    exact .inl ⟨h1, by rw [h2]; exact q⟩
  · split at h
    · rename_i hs
      cases h
      exact .inr ⟨toPy d, toPy e, dp_rd r1 (lay_of_shp hs.1), dp_rd r2 (lay_of_shp hs.2), hs.1, hs.2, q⟩
    · cases h
/-! ### order -/
def intsD : List D → Option (List Int)
  | [] => some []
  | .int i :: ds => (intsD ds).map (i :: ·)
  | _ :: _ => none
theorem immL_ints {K : PySem.W.Frag} {H : Hp} : ∀ {ds : List D} {vs : List V} {ns : List Int}, ImmL K H ds vs → intsD ds = some ns → vs = ns.map V.int
  | [], _, _, h, e => by cases (show _ = _ from h); cases e; rfl
  | .int i :: ds, _, ns, ⟨v, r, e1, h1, h2⟩, e => by
    subst e1
    cases (show _ = _ from h1)
    simp only [intsD] at e
    cases hh : intsD ds with
    | none => rw [hh] at e; cases e
    | some ms =>
      rw [hh] at e
      cases e
      rw [List.map_cons, immL_ints h2 hh]
  | .non :: _, _, _, _, e => nomatch e
  | .bl _ :: _, _, _, _, e => nomatch e
  | .str _ :: _, _, _, _, e => nomatch e
  | .tup _ :: _, _, _, _, e => nomatch e
  | .lst _ :: _, _, _, _, e => nomatch e
  | .dic _ _ :: _, _, _, _, e => nomatch e
  | .scr _ :: _, _, _, _, e => nomatch e
  | .ktp _ :: _, _, _, _, e => nomatch e
def dLt : D → D → Option Bool
  | .int i, .int j => some (decide (i < j))
  | .str i, .str j => some (decide (i.cps.toList < j.cps.toList))
  | .tup ds, .tup es => match intsD ds, intsD es with
    | some ns, some ms => some (HT.lexLt ns ms)
    | _, _ => none
  | _, _ => none
theorem o_lt (A : At g X) : OpB X (compareOp .Lt) dLt := by
  refine ⟨_, OpR.or op_lt (OpR.or op_lt_str (op_ltT A.room.units0)), fun x y H Q d e k r1 r2 h q => ?_⟩
  cases d <;> cases e <;> simp only [dLt] at h <;> try (cases h; done)
  · cases h; exact .inl ⟨_, _, r1.int, r2.int, q⟩
  · cases h; exact .inr (.inl ⟨_, _, r1.str, r2.str, q⟩)
  · rename_i ds es
    cases h1 : intsD ds with
    | none => rw [h1] at h; cases h
    | some ns =>
      cases h2 : intsD es with
      | none => rw [h1, h2] at h; cases h
      | some ms =>
        rw [h1, h2] at h
        cases h
        obtain ⟨a, vs, e1, s1, i1⟩ := r1.tup
        obtain ⟨b, ws, e2, s2, i2⟩ := r2.tup
        exact .inr (.inr ⟨a, b, ns, ms, e1, e2, by rw [← immL_ints i1 h1]; exact s1.seq, by rw [← immL_ints i2 h2]; exact s2.seq, q⟩)
def dLe : D → D → Option Bool
  | .int i, .int j => some (decide (i ≤ j))
  | .str i, .str j => some (!decide (j.cps.toList < i.cps.toList))
  | _, _ => none
def dGt : D → D → Option Bool
  | .int i, .int j => some (decide (j < i))
  | .str i, .str j => some (decide (j.cps.toList < i.cps.toList))
  | _, _ => none
def dGe : D → D → Option Bool
  | .int i, .int j => some (decide (j ≤ i))
  | .str i, .str j => some (!decide (i.cps.toList < j.cps.toList))
  | _, _ => none
theorem o_le (A : At g X) : OpB X (compareOp .LtE) dLe := by
  refine ⟨_, OpR.or op_le op_le_str, fun x y H Q d e k r1 r2 h q => ?_⟩
  cases d <;> cases e <;> simp only [dLe] at h <;> cases h
  · exact .inl ⟨_, _, r1.int, r2.int, q⟩
  · exact .inr ⟨_, _, r1.str, r2.str, q⟩
theorem o_gt (A : At g X) : OpB X (compareOp .Gt) dGt := by
  refine ⟨_, OpR.or op_gt op_gt_str, fun x y H Q d e k r1 r2 h q => ?_⟩
  cases d <;> cases e <;> simp only [dGt] at h <;> cases h
  · exact .inl ⟨_, _, r1.int, r2.int, q⟩
  · exact .inr ⟨_, _, r1.str, r2.str, q⟩
theorem o_ge (A : At g X) : OpB X (compareOp .GtE) dGe := by
  refine ⟨_, OpR.or op_ge op_ge_str, fun x y H Q d e k r1 r2 h q => ?_⟩
  cases d <;> cases e <;> simp only [dGe] at h <;> cases h
  · exact .inl ⟨_, _, r1.int, r2.int, q⟩
  · exact .inr ⟨_, _, r1.str, r2.str, q⟩
/-- is None, is not None -/
def dIsNon : D → Bool
  | .non => true
  | _ => false
def dIsBl (k : Bool) : D → Bool
  | .bl b => b == k
  | _ => false
def dIs (d e : D) : Option Bool := match e with
  | .non => some (dIsNon d)
  | .bl k => some (dIsBl k d)
  | _ => none
def dIsNot (d e : D) : Option Bool := match e with
  | .non => some (!dIsNon d)
  | .bl k => some (!dIsBl k d)
  | _ => none
theorem isNon_of {K : PySem.W.Frag} {H : Hp} {d : D} {x : V} (r : Rd K H d x) : decide (x = .non) = dIsNon d := by
  cases d with
  | non => cases r.non; rfl
  | bl b => cases r.bl; rfl
  | int b => cases r.int; rfl
  | str b => cases r.str; rfl
  | tup ds => obtain ⟨a, vs, e, _⟩ := r.tup; subst e; rfl
  | lst ds => obtain ⟨a, vs, e, _⟩ := r.lst; subst e; rfl
  | dic t ds =>
    obtain ⟨a, e⟩ := r.dic
    subst e; rfl
  | scr ns => obtain ⟨a, e, _⟩ := r.scr; subst e; rfl
  | ktp ds => obtain ⟨a, vs, e, _⟩ := r.ktp; subst e; rfl
def vIsBl (k : Bool) : V → Bool
  | .bl b => b == k
  | _ => false
def okIs : V → Bool
  | .non => true | .bl _ => true | .int _ => true | .str _ => true | .ref _ => true | _ => false
theorem isBl_of {K : PySem.W.Frag} {H : Hp} {d : D} {x : V} {k : Bool} (r : Rd K H d x) : okIs x = true ∧ vIsBl k x = dIsBl k d := by
  cases d with
  | non => cases r.non; exact ⟨rfl, rfl⟩
  | bl b => cases r.bl; exact ⟨rfl, rfl⟩
  | int b => cases r.int; exact ⟨rfl, rfl⟩
  | str b => cases r.str; exact ⟨rfl, rfl⟩
  | tup ds => obtain ⟨a, vs, e, _⟩ := r.tup; subst e; exact ⟨rfl, rfl⟩
  | lst ds => obtain ⟨a, vs, e, _⟩ := r.lst; subst e; exact ⟨rfl, rfl⟩
  | dic t ds =>
    obtain ⟨a, e⟩ := r.dic
    subst e; exact ⟨rfl, rfl⟩
  | scr ns => obtain ⟨a, e, _⟩ := r.scr; subst e; exact ⟨rfl, rfl⟩
  | ktp ds => obtain ⟨a, vs, e, _⟩ := r.ktp; subst e; exact ⟨rfl, rfl⟩
theorem beq_bool (b k : Bool) : (Value.bool b == Value.bool k) = (b == k) := by cases b <;> cases k <;> decide
theorem op_isB : OpR X (compareOp .Is) (fun x y H Q => ∃ k, y = .bl k ∧ okIs x = true ∧ Q (.bl (vIsBl k x)) H) := by
  intro pins s σ H x y v u Q I rx ry h
  obtain ⟨k, rfl, ho, q⟩ := h
  cases ry
  cases x with
  | non => cases rx; exact wpAny_is_plain rfl (fin_bl I q (by cases k <;> rfl))
  | bl b => cases rx; exact wpAny_is_plain rfl (fin_bl I q (beq_bool b k).symm)
  | int b => obtain ⟨t, rfl⟩ := rx; exact wpAny_is_plain rfl (fin_bl I q (by cases k <;> rfl))
  | str b => obtain ⟨t, rfl⟩ := rx; exact wpAny_is_plain rfl (fin_bl I q (by cases k <;> rfl))
  | ref b => cases rx; exact wpAny_is_plain rfl (fin_bl I q (by cases k <;> rfl))
  | _ => cases ho
theorem op_isNotB : OpR X (compareOp .IsNot) (fun x y H Q => ∃ k, y = .bl k ∧ okIs x = true ∧ Q (.bl (!vIsBl k x)) H) := by
  intro pins s σ H x y v u Q I rx ry h
  obtain ⟨k, rfl, ho, q⟩ := h
  cases ry
  cases x with
  | non => cases rx; exact wpAny_isNot_plain rfl (fin_bl I q (by cases k <;> rfl))
  | bl b => cases rx; exact wpAny_isNot_plain rfl (fin_bl I q (by rw [beq_bool] <;> rfl))
  | int b => obtain ⟨t, rfl⟩ := rx; exact wpAny_isNot_plain rfl (fin_bl I q (by cases k <;> rfl))
  | str b => obtain ⟨t, rfl⟩ := rx; exact wpAny_isNot_plain rfl (fin_bl I q (by cases k <;> rfl))
  | ref b => cases rx; exact wpAny_isNot_plain rfl (fin_bl I q (by cases k <;> rfl))
  | _ => cases ho
theorem o_is (A : At g X) : OpB X (compareOp .Is) dIs := by
  refine ⟨_, OpR.or op_isN op_isB, fun x y H Q d e k r1 r2 h q => ?_⟩
  cases e <;> simp only [dIs] at h <;> cases h
  · exact .inl ⟨r2.non, by rw [isNon_of r1]; exact q⟩
  · obtain ⟨o1, o2⟩ := isBl_of r1
    exact .inr ⟨_, r2.bl, o1, by rw [o2]; exact q⟩
theorem o_isnot (A : At g X) : OpB X (compareOp .IsNot) dIsNot := by
  refine ⟨_, OpR.or op_notN op_isNotB, fun x y H Q d e k r1 r2 h q => ?_⟩
  cases e <;> simp only [dIsNot] at h <;> cases h
  · exact .inl ⟨r2.non, by rw [isNon_of r1]; exact q⟩
  · obtain ⟨o1, o2⟩ := isBl_of r1
    exact .inr ⟨_, r2.bl, o1, by rw [o2]; exact q⟩
/-! ### arithmetic -/
def dAdd : D → D → Option S
  | .int a, .int b => some (.v (.int (a + b)))
  | .str a, .str b => if a.length + b.length ≤ 16777216 then some (.v (.str (a ++ b))) else none
  | .tup a, .tup b => if a.length + b.length ≤ 16777216 then some (.v (.tup (a ++ b))) else none
  | .lst a, .lst b => if a.length + b.length ≤ 16777216 then some (.o (.lst (a ++ b))) else none
  | _, _ => none
def rCatL : R2 := fun x y H Q => ∃ l b xs zs, x = .ref l ∧ y = .ref b ∧ L2.Rd H l (.lst xs) ∧ L2.Rd H b (.lst zs) ∧ xs.length + zs.length ≤ sizeLine ∧ ∀ p, H p = none → Q (.ref p) (upd H p (.lst (xs ++ zs)))
theorem lstR {pins : List (Addr × Obj)} {σ : L2.St} {H : Hp} {s : Shared} {l : Addr} {xs : List V} (I : Inv X pins σ H s) (h : L2.Rd H l (.lst xs)) :
    xs.length ≤ sizeLine ∧ ∃ (its : List Value) (n : Nat), Vals xs its ∧ xs.length = its.length ∧ s.heap.get? l = some { cls := .type "list", data := .seq its.toArray n } := by
  obtain ⟨z, its, n, r, e⟩ := h.ok I.hok
  exact ⟨z, its, n, r, r.length, e⟩
theorem op_catL : OpR X (binaryOp .Add) rCatL := by
  intro pins s σ H x y v u Q I rx ry h
  obtain ⟨l, b, xs, zs, rfl, rfl, hH, hB, hz, q⟩ := h
  cases rx
  cases ry
  obtain ⟨z, its, n, r, hl, e⟩ := lstR I hH
  obtain ⟨z2, its2, n2, r2, hl2, e2⟩ := lstR I hB
  refine PySem.P.add_list e e2 ?_ (by rw [List.size_toArray, List.size_toArray]; omega)
  have ea : its.toArray ++ its2.toArray = (its ++ its2).toArray := by simp
  rw [ea]
  exact ⟨.ref _, _, I.lnew (t' := s.toks) (r.append r2) (by rw [List.length_append]; omega), rfl, q _ I.fresh⟩
theorem o_add (A : At g X) : Op2 X (binaryOp .Add) dAdd := by
  refine ⟨_, OpR.or op_add (OpR.or op_add_str (OpR.or op_catA op_catL)), fun x y H Q d e s r1 r2 h q => ?_⟩
  cases d <;> cases e <;> simp only [dAdd] at h <;> try (cases h; done)
  · cases h; exact .inl ⟨_, _, r1.int, r2.int, q _ H (Same.refl H) rfl⟩
  · split at h
    · rename_i hz
      cases h
      exact .inr (.inl ⟨_, _, r1.str, r2.str, line_le hz, q _ H (Same.refl H) rfl⟩)
    · cases h
  · split at h
    · rename_i hz
      cases h
      obtain ⟨a, vs, e1, s1, i1⟩ := r1.tup
      obtain ⟨b, ws, e2, s2, i2⟩ := r2.tup
      refine .inr (.inr (.inl ⟨a, b, vs, ws, e1, e2, s1.seq, s2.seq, line_le (by rw [i1.len, i2.len]; exact hz), fun e => ?_, fun e e' => ?_, fun e e' p hp => ?_⟩))
      · have := i1.none_iff.mp e
        subst this
        exact q _ H (Same.refl H) ⟨b, ws, rfl, s2, i2⟩
      · have := i2.none_iff.mp e'
        subst this
        rw [List.append_nil] at q
        exact q _ H (Same.refl H) ⟨a, vs, rfl, s1, i1⟩
      · exact q _ _ (new_tup (K := X.K) hp) ⟨p, _, rfl, TpT.of upd_same, ImmL.ext (Ext.of_same (new_tup (K := X.K) hp)) _ _ (i1.append i2)⟩
    · cases h
  · split at h
    · rename_i hz
      cases h
      obtain ⟨a, vs, e1, s1, i1⟩ := r1.lstR
      obtain ⟨b, ws, e2, s2, i2⟩ := r2.lstR
      refine .inr (.inr (.inr ⟨a, b, vs, ws, e1, e2, s1, s2, line_le (by rw [i1.len, i2.len]; exact hz), fun p hp => ?_⟩))
      exact q _ _ (new_tup (K := X.K) hp) ⟨p, rfl, hp, _, upd_same, ImmL.ext (Ext.of_same (new_tup (K := X.K) hp)) _ _ (i1.append i2)⟩
    · cases h
def dSub : D → D → Option S
  | .int a, .int b => some (.v (.int (a - b)))
  | _, _ => none
theorem o_sub (A : At g X) : Op2 X (binaryOp .Sub) dSub := by
  refine ⟨_, op_sub, fun x y H Q d e s r1 r2 h q => ?_⟩
  cases d <;> cases e <;> simp only [dSub] at h <;> cases h
  exact ⟨_, _, r1.int, r2.int, q _ H (Same.refl H) rfl⟩
/-- the sizes at which * is served -/
def mulOk (a b : Int) : Prop := a.natAbs < 18446744073709551616 ∨ b.natAbs < 18446744073709551616 ∨ a.natAbs.log2 + b.natAbs.log2 < 1000000
instance (a b : Int) : Decidable (mulOk a b) := by unfold mulOk; infer_instance
def dMul : D → D → Option S
  | .int a, .int b => if mulOk a b then some (.v (.int (a * b))) else none
  | .lst a, .int k => if a.length * k.toNat ≤ 16777216 ∧ -9223372036854775808 ≤ k ∧ k < 9223372036854775808 then some (.o (.lst (List.replicate k.toNat a).flatten)) else none
  | .tup a, .int k => if 0 < a.length ∧ a.length ≤ 1000 ∧ 2 ≤ k ∧ k ≤ 1000 then some (.v (.tup (List.replicate k.toNat a).flatten)) else none
  | _, _ => none
theorem immL_rep {K : PySem.W.Frag} {H : Hp} {ds : List D} {vs : List V} (h : ImmL K H ds vs) : ∀ k : Nat, ImmL K H (List.replicate k ds).flatten (List.replicate k vs).flatten
  | 0 => rfl
  | k + 1 => by
    rw [List.replicate_succ, List.replicate_succ, List.flatten_cons, List.flatten_cons]
    exact h.append (immL_rep h k)
def rRepL : R2 := fun x y H Q => ∃ l k xs, x = .ref l ∧ y = .int k ∧ L2.Rd H l (.lst xs) ∧ -(2 ^ 63) ≤ k ∧ k < 2 ^ 63 ∧ xs.length * k.toNat ≤ sizeLine ∧
  ∀ p, H p = none → Q (.ref p) (upd H p (.lst (List.replicate k.toNat xs).flatten))
end
end PL

namespace PL
open PySem PySem.Spec PyProof.Rows L2
/-! ### dicts -/
def kOf (t : Bool) (d : D) : Option (List Key) := match t with
  | false => (keyD d).map fun k => [k]
  | true => match d with
    | .tup ks => keysD ks
    | _ => none
def gGet (t : Bool) (kvs : List (D × D)) (k : List Key) : Option D := (kvs.find? fun p => decide (kOf t p.1 = some k)).map (·.2)
def gPut (t : Bool) (kvs : List (D × D)) (k : List Key) (kd v : D) : List (D × D) :=
  if (gGet t kvs k).isSome = true then kvs.map (fun p => if kOf t p.1 = some k then (p.1, v) else p) else kvs ++ [(kd, v)]
def ImmO (K : PySem.W.Frag) (H : Hp) : Option D → Option V → Prop
  | none, o => o = none
  | some d, o => ∃ v, o = some v ∧ Imm K H d v
theorem ImmO.some_eq {K : PySem.W.Frag} {H : Hp} : ∀ {d : Option D} {v : Option V}, ImmO K H d v → v.isSome = d.isSome
  | none, _, h => by cases (show _ = _ from h); rfl
  | some d, _, ⟨v, e, _⟩ => by subst e; rfl
section
variable {K : PySem.W.Frag} {H : Hp}
theorem gGet_pos {t : Bool} {p : D × D} {r : List (D × D)} {k : List Key} (e : kOf t p.1 = some k) : gGet t (p :: r) k = some p.2 := by simp [gGet, List.find?_cons, e]
theorem gGet_neg {t : Bool} {p : D × D} {r : List (D × D)} {k : List Key} (e : ¬ kOf t p.1 = some k) : gGet t (p :: r) k = gGet t r k := by simp [gGet, List.find?_cons, e]
theorem kOf_false {d : D} {k : Key} (h : keyD d = some k) : kOf false d = some [k] := by simp [kOf, h]
theorem kOf_false_is {d : D} {ks : List Key} (h : kOf false d = some ks) : ∃ k, keyD d = some k ∧ ks = [k] := by
  unfold kOf at h
  cases e : keyD d with
  | none => rw [e] at h; cases h
  | some k => rw [e] at h; cases h; exact ⟨k, rfl, rfl⟩
theorem kOf_true_is {d : D} {ks : List Key} (h : kOf true d = some ks) : ∃ ds, d = .tup ds ∧ keysD ds = some ks := by
  cases d with
  | tup ds => exact ⟨ds, rfl, h⟩
  | _ => cases h
theorem immK_val : ∀ {kvs : List (D × D)} {kws : List (Key × V)} (k : Key), ImmK K H kvs kws → ImmO K H (gGet false kvs [k]) (valV kws k)
  | [], _, k, h => by cases (show _ = _ from h); exact rfl
  | (kd, d) :: ds, _, k, ⟨kk, v, r, e, h0, h1, h2⟩ => by
    subst e
    by_cases hk : kk = k
    · subst hk
      rw [gGet_pos (kOf_false h0), valV_pos rfl]
      exact ⟨v, rfl, h1⟩
    · rw [gGet_neg (by rw [kOf_false h0]; simpa using hk), valV_neg hk]
      exact immK_val k h2
theorem immK_map {d : D} {v : V} : ∀ {kvs : List (D × D)} {kws : List (Key × V)} (k : Key), ImmK K H kvs kws → Imm K H d v →
    ImmK K H (kvs.map fun p => if kOf false p.1 = some [k] then (p.1, d) else p) (kws.map fun kv => if kv.1 = k then (kv.1, v) else kv)
  | [], _, k, h, im => by cases (show _ = _ from h); exact rfl
  | (kd, d') :: ds, _, k, ⟨kk, v', r, e, h0, h1, h2⟩, im => by
    subst e
    have ih := immK_map k h2 im
    by_cases hk : kk = k
    · subst hk
      rw [List.map_cons, List.map_cons, if_pos (kOf_false h0), if_pos rfl]
      exact ⟨kk, v, _, rfl, h0, im, ih⟩
    · rw [List.map_cons, List.map_cons, if_neg (by rw [kOf_false h0]; simpa using hk), if_neg hk]
      exact ⟨kk, v', _, rfl, h0, h1, ih⟩
theorem immK_snoc {kd d : D} {v : V} {k : Key} (hk : keyD kd = some k) (im : Imm K H d v) : ∀ {kvs : List (D × D)} {kws : List (Key × V)}, ImmK K H kvs kws → ImmK K H (kvs ++ [(kd, d)]) (kws ++ [(k, v)])
  | [], _, h => by cases (show _ = _ from h); exact ⟨k, v, [], rfl, hk, im, rfl⟩
  | (kd', d') :: ds, _, ⟨kk, v', r, e, h0, h1, h2⟩ => by
    subst e
    exact ⟨kk, v', _, rfl, h0, h1, immK_snoc hk im h2⟩
theorem immK_put {kd d : D} {v : V} {k : Key} {kvs : List (D × D)} {kws : List (Key × V)} (hk : keyD kd = some k) (im : Imm K H d v) (h : ImmK K H kvs kws) : ImmK K H (gPut false kvs [k] kd d) (putK kws k v) := by
  unfold gPut putK
  have e := (immK_val k h).some_eq
  rw [valV_any, e]
  split
  · exact immK_map k h im
  · exact immK_snoc hk im h
theorem immK_length : ∀ {ds : List (D × D)} {vs : List (Key × V)}, ImmK K H ds vs → vs.length = ds.length
  | [], _, h => by cases (show _ = _ from h); rfl
  | (_, d) :: ds, _, ⟨_, v, r, e1, _, h1, h2⟩ => by rw [e1, List.length_cons, List.length_cons, immK_length h2]
/-! with tuples as keys -/
theorem immT_key : ∀ {p : D × D} {r : List (D × D)} {kws : List (List Key × V)}, ImmT K H (p :: r) kws → ∃ ks kk v r', p.1 = .tup ks ∧ kws = (kk, v) :: r' ∧ keysD ks = some kk ∧ Imm K H p.2 v ∧ ImmT K H r r'
  | (kd, d), r, kws, h => by
    cases kd with
    | tup ks => obtain ⟨kk, v, r', e, h0, h1, h2⟩ := h; exact ⟨ks, kk, v, r', rfl, e, h0, h1, h2⟩
    | _ => exact h.elim
theorem immT_mk {kd : D} {ks : List D} {kk : List Key} {d : D} {v : V} {r : List (D × D)} {r' : List (List Key × V)} (e : kd = .tup ks) (h0 : keysD ks = some kk) (h1 : Imm K H d v) (h2 : ImmT K H r r') : ImmT K H ((kd, d) :: r) ((kk, v) :: r') := by
  subst e
  exact ⟨kk, v, r', rfl, h0, h1, h2⟩
theorem kOf_true {kd : D} {ds : List D} {k : List Key} (e : kd = .tup ds) (h : keysD ds = some k) : kOf true kd = some k := by subst e; exact h
theorem immT_val : ∀ {kvs : List (D × D)} {kws : List (List Key × V)} (k : List Key), ImmT K H kvs kws → ImmO K H (gGet true kvs k) (valV kws k)
  | [], _, k, h => by cases (show _ = _ from h); exact rfl
  | (kd, d) :: ds, _, k, h => by
    obtain ⟨ks, kk, v, r', e0, e, h0, h1, h2⟩ := immT_key h
    subst e
    by_cases hk : kk = k
    · subst hk
      rw [gGet_pos (kOf_true e0 h0), valV_pos rfl]
      exact ⟨v, rfl, h1⟩
    · rw [gGet_neg (by rw [kOf_true e0 h0]; simpa using hk), valV_neg hk]
      exact immT_val k h2
theorem immT_map {d : D} {v : V} : ∀ {kvs : List (D × D)} {kws : List (List Key × V)} (k : List Key), ImmT K H kvs kws → Imm K H d v →
    ImmT K H (kvs.map fun p => if kOf true p.1 = some k then (p.1, d) else p) (kws.map fun kv => if kv.1 = k then (kv.1, v) else kv)
  | [], _, k, h, im => by cases (show _ = _ from h); exact rfl
  | (kd, d') :: ds, _, k, h, im => by
    obtain ⟨ks, kk, v', r', e0, e, h0, h1, h2⟩ := immT_key h
    subst e
    have ih := immT_map k h2 im
    by_cases hk : kk = k
    · subst hk
      rw [List.map_cons, List.map_cons, if_pos (kOf_true e0 h0), if_pos rfl]
      exact immT_mk e0 h0 im ih
    · rw [List.map_cons, List.map_cons, if_neg (by rw [kOf_true e0 h0]; simpa using hk), if_neg hk]
      exact immT_mk e0 h0 h1 ih
theorem immT_snoc {ks : List D} {d : D} {v : V} {k : List Key} (hk : keysD ks = some k) (im : Imm K H d v) : ∀ {kvs : List (D × D)} {kws : List (List Key × V)}, ImmT K H kvs kws → ImmT K H (kvs ++ [(.tup ks, d)]) (kws ++ [(k, v)])
  | [], _, h => by cases (show _ = _ from h); exact ⟨k, v, [], rfl, hk, im, rfl⟩
  | (kd', d') :: ds, _, h => by
    obtain ⟨ks', kk, v', r', e0, e, h0, h1, h2⟩ := immT_key h
    subst e
    exact immT_mk e0 h0 h1 (immT_snoc hk im h2)
theorem immT_put {ks : List D} {d : D} {v : V} {k : List Key} {kvs : List (D × D)} {kws : List (List Key × V)} (hk : keysD ks = some k) (im : Imm K H d v) (h : ImmT K H kvs kws) : ImmT K H (gPut true kvs k (.tup ks) d) (putK kws k v) := by
  unfold gPut putK
  have e := (immT_val k h).some_eq
  rw [valV_any, e]
  split
  · exact immT_map k h im
  · exact immT_snoc hk im h
theorem immT_length : ∀ {ds : List (D × D)} {vs : List (List Key × V)}, ImmT K H ds vs → vs.length = ds.length
  | [], _, h => by cases (show _ = _ from h); rfl
  | (kd, d) :: ds, _, h => by
    obtain ⟨ks', kk, v', r', e0, e, h0, h1, h2⟩ := immT_key h
    rw [e, List.length_cons, List.length_cons, immT_length h2]
/-! ### the kit's readings and writings -/
theorem rd_key {kd : D} {y : V} {k : Key} (r : Rd K H kd y) (h : keyD kd = some k) : y = kV k := by
  cases kd <;> cases h
  · exact r.int
  · exact r.str
theorem immL_key : ∀ {ks : List D} {k : List Key} {vs : List V}, ImmL K H ks vs → keysD ks = some k → vs = k.map kV
  | [], k, vs, im, h => by cases h; exact im
  | d :: ds, k, vs, ⟨v, r, e, h1, h2⟩, h => by
    unfold keysD at h
    cases h3 : keyD d with
    | none => rw [h3] at h; cases h
    | some kk =>
      rw [h3] at h
      cases h4 : keysD ds with
      | none => rw [h4] at h; cases h
      | some ks' =>
        rw [h4] at h
        cases h
        rw [e, List.map_cons, rd_key (.inl h1) h3, immL_key h2 h4]
theorem dget_of {t : Bool} {kvs : List (D × D)} {x y : V} {kd : D} {k : List Key} (r1 : Rd K H (.dic t kvs) x) (r2 : Rd K H kd y) (h : kOf t kd = some k) : ∃ a o, x = .ref a ∧ DGet H a y o ∧ ImmO K H (gGet t kvs k) o := by
  cases t with
  | false =>
    obtain ⟨a, kws, e, h1, h2⟩ := r1.dicK
    obtain ⟨kk, h3, rfl⟩ := kOf_false_is h
    exact ⟨a, _, e, .inl ⟨kws, kk, h1, rd_key r2 h3, rfl⟩, immK_val kk h2⟩
  | true =>
    obtain ⟨a, kws, e, h1, h2⟩ := r1.dicT
    obtain ⟨ds, rfl, h3⟩ := kOf_true_is h
    obtain ⟨b, vs, e2, h4, h5⟩ := r2.tup
    refine ⟨a, _, e, .inr ⟨kws, k, b, h1, e2, ?_, rfl⟩, immT_val k h2⟩
    rw [← immL_key h5 h3]
    exact h4
theorem mut_ext {H H' : Hp} {a : Addr} {u : HO} (hu : H a = some u) (mu : Mut (some u)) (e : ∀ b, b ≠ a → H' b = H b) : Ext H H' := fun b ob hb => by
  by_cases hba : b = a
  · subst hba
    rw [hu] at hb; cases hb
    exact ⟨fun xs e => by subst e; exact mu.elim, fun _ _ e => by subst e; exact mu.elim⟩
  · exact ⟨fun _ _ => by rw [e b hba]; exact hb, fun _ _ _ => by rw [e b hba]; exact hb⟩
theorem dput_of {t : Bool} {kvs : List (D × D)} {a : Addr} {y v : V} {kd d : D} {k : List Key} (o : OwnAt K H a (.dic t kvs)) (r2 : Rd K H kd y) (h : kOf t kd = some k) (im : Imm K H d v) (hl : kvs.length < 16777216) :
    ∃ H', DPut H a y v H' ∧ Ext H H' ∧ (∀ b, b ≠ a → H' b = H b) ∧ OwnAt K H' a (.dic t (gPut t kvs k kd d)) := by
  cases t with
  | false =>
    obtain ⟨kws, h1, h2⟩ := o
    obtain ⟨kk, h3, rfl⟩ := kOf_false_is h
    have x : Ext H (upd H a (.dK (putK kws kk v))) := mut_ext h1 True.intro fun b hb => upd_ne hb
    refine ⟨_, .inl ⟨kws, kk, h1, rd_key r2 h3, ?_, rfl⟩, x, fun b hb => upd_ne hb, _, upd_same, ImmK.ext x _ _ (immK_put h3 im h2)⟩
    rw [immK_length h2, sizeLine_eq]; exact hl
  | true =>
    obtain ⟨kws, h1, h2⟩ := o
    obtain ⟨ds, rfl, h3⟩ := kOf_true_is h
    obtain ⟨b, vs, e2, h4, h5⟩ := r2.tup
    have x : Ext H (upd H a (.dT (putK kws k v))) := mut_ext h1 True.intro fun b hb => upd_ne hb
    refine ⟨_, .inr ⟨kws, k, b, h1, e2, ?_, ?_, rfl⟩, x, fun b hb => upd_ne hb, _, upd_same, ImmT.ext x _ _ (immT_put h3 im h2)⟩
    · rw [← immL_key h5 h3]; exact h4
    · rw [immT_length h2, sizeLine_eq]; exact hl
theorem isD_of {t : Bool} {kvs : List (D × D)} {x : V} (r1 : Rd K H (.dic t kvs) x) : ∃ a, x = .ref a ∧ IsD H a := by
  cases t with
  | false => obtain ⟨a, kws, e, h1, h2⟩ := r1.dicK; exact ⟨a, e, .inl ⟨kws, h1⟩⟩
  | true => obtain ⟨a, kws, e, h1, h2⟩ := r1.dicT; exact ⟨a, e, .inr ⟨kws, h1⟩⟩
end
end PL

namespace PL
open PySem PySem.Spec PyProof.Rows L2
section
variable {g : Cf} {X : Cx}
theorem op_repL : OpR X (binaryOp .Mult) rRepL := by
  intro pins s σ H x y v u Q I rx ry h
  obtain ⟨l, k, xs, rfl, rfl, hH, h1, h2, hz, q⟩ := h
  cases rx
  obtain ⟨t, rfl⟩ := ry
  obtain ⟨z, its, n, r, hl, e⟩ := lstR I hH
  have hlen : its.toArray.size * k.toNat ≤ sizeLine := by rw [List.size_toArray, ← hl]; exact hz
  have hcap : ¬ its.toArray.size * k.toNat > (2 ^ 63 - 1) / 8 := by
    have : (sizeLine : Nat) ≤ (2 ^ 63 - 1) / 8 := by decide
    omega
  have hfit : ¬ (!Builtin.List.listFitsIndex k) = true := by
    rw [fitsIndex_both h1 h2]
    exact Bool.false_ne_true
  have hlong : ¬ Builtin.List.listTooLong (its.toArray.size * k.toNat) = true := by
    rw [notLongL hlen]
    exact Bool.false_ne_true
  have hnew : List.foldl (fun x1 x2 => x1 ++ x2) #[] (List.replicate (if its.toArray.isEmpty = true then 0 else k.toNat) its.toArray) = (List.replicate k.toNat its).flatten.toArray := by
    have f0 : ∀ m : Nat, List.foldl (fun x1 x2 => x1 ++ x2) #[] (List.replicate m its.toArray) = (List.replicate m its).flatten.toArray := fun m => by
      have := foldl_rep its m []
      rw [List.nil_append] at this
      exact this
    rw [f0]
    cases its with
    | nil => simp
    | cons a r' => rw [if_neg (by simp)]
  refine wpAny_binaryOp_repeat_ref (T := "list") (U := "int") (by decide) ⟨_, e, rfl⟩ (fun s' => typeIs_int s' k t) noFill_list_mul F.fills_int_mul F.slot_int_rmul repeat_list F.slot_int_index.lookup
    (call_meets F.slot_int_rmul (typeIs_int s k t) F.entry_int_rmul (F.args_int_rmul_2 _ _) (int___rmul___int_list k t l its.toArray n)
      ⟨e, rfl, ⟨_, e, rfl⟩, call_meets F.slot_list_mul ⟨_, e, rfl⟩ F.entry_list_mul (F.args_list_mul_2 _ _) (AutoListH.list___mul___list_int_3 l its.toArray n k t hfit hcap hlong) ⟨e, ?_⟩⟩)
  rw [hnew]
  exact ⟨.ref _, _, I.lnew (t' := s.toks) (r.rep k.toNat) (by rw [PyProof.Rows.lm_len_rep_flat, Nat.mul_comm]; exact hz), rfl, q _ I.fresh⟩
theorem mulOk.cm {i j : Int} (h : mulOk i j) : CMul i j ∨ CMulW i j := by
  rcases h with h | h | h
  · exact .inl (.inl ⟨by omega, by omega⟩)
  · exact .inl (.inr ⟨by omega, by omega⟩)
  · exact .inr h
theorem o_mul (A : At g X) : Op2 X (binaryOp .Mult) dMul := by
  refine ⟨_, OpR.or op_mul (OpR.or op_mulW (OpR.or op_repL op_repT)), fun x y H Q d e s r1 r2 h q => ?_⟩
  cases d <;> cases e <;> simp only [dMul] at h <;> try (cases h; done)
  · split at h
    · rename_i hz
      cases h
      rcases hz.cm with hc | hc
      · exact .inl ⟨_, _, r1.int, r2.int, hc, q _ H (Same.refl H) rfl⟩
      · exact .inr (.inl ⟨_, _, r1.int, r2.int, hc, q _ H (Same.refl H) rfl⟩)
    · cases h
  · split at h
    · rename_i hz
      cases h
      obtain ⟨a, vs, e1, s1, i1⟩ := r1.tup
      refine .inr (.inr (.inr ⟨a, _, vs, e1, r2.int, s1.seq, fun e => ?_, hz.2.2.1, hz.2.2.2, by rw [i1.len]; exact hz.2.1, fun p hp => ?_⟩))
      · have := i1.none_iff.mp e
        subst this
        exact absurd hz.1 (by simp)
      · exact q _ _ (new_tup (K := X.K) hp) ⟨p, _, rfl, TpT.of upd_same, ImmL.ext (Ext.of_same (new_tup (K := X.K) hp)) _ _ (immL_rep i1 _)⟩
    · cases h
  · split at h
    · rename_i hz
      cases h
      obtain ⟨a, vs, e1, s1, i1⟩ := r1.lstR
      refine .inr (.inr (.inl ⟨a, _, vs, e1, r2.int, s1, hz.2.1, hz.2.2, line_le (by rw [i1.len]; exact hz.1), fun p hp => ?_⟩))
      exact q _ _ (new_tup (K := X.K) hp) ⟨p, rfl, hp, _, upd_same, ImmL.ext (Ext.of_same (new_tup (K := X.K) hp)) _ _ (immL_rep i1 _)⟩
    · cases h
def dDiv : D → D → Option S
  | .int a, .int b => if 0 < b ∧ b.natAbs.log2 < 9000 then some (.v (.int (a / b))) else if b ≠ 0 ∧ (b.natAbs < 1073741824 ∨ b.natAbs.log2 < 9000) then some (.v (.int (a.fdiv b))) else none
  | _, _ => none
theorem op_fdivNW {X : Cx} : OpR X (binaryOp .FloorDiv) (rI (fun _ j => j ≠ 0 ∧ (j.natAbs < 1073741824 ∨ j.natAbs.log2 < 9000)) fun i j => .int (i.fdiv j)) := opI fun _ _ _ _ _ _ _ hc q => floordiv_int hc.1 q (.inl (hc.2.elim PyProof.noPylong_small PyProof.noPylong_of_log2))
theorem o_div (A : At g X) : Op2 X (binaryOp .FloorDiv) dDiv := by
  refine ⟨_, OpR.or op_fdivW op_fdivNW, fun x y H Q d e s r1 r2 h q => ?_⟩
  cases d <;> cases e <;> simp only [dDiv] at h <;> try (cases h; done)
  split at h
  · rename_i hz
    cases h
    exact .inl ⟨_, _, r1.int, r2.int, hz, q _ H (Same.refl H) rfl⟩
  · split at h
    · rename_i hz
      cases h
      exact .inr ⟨_, _, r1.int, r2.int, hz, q _ H (Same.refl H) rfl⟩
    · cases h
def dMod : D → D → Option S
  | .int a, .int b => if 0 < b then some (.v (.int (a % b))) else if b ≠ 0 then some (.v (.int (a.fmod b))) else none
  | _, _ => none
theorem o_mod (A : At g X) : Op2 X (binaryOp .Mod) dMod := by
  refine ⟨_, OpR.or op_mod op_modN, fun x y H Q d e s r1 r2 h q => ?_⟩
  cases d <;> cases e <;> simp only [dMod] at h <;> try (cases h; done)
  split at h
  · rename_i hz
    cases h
    exact .inl ⟨_, _, r1.int, r2.int, hz, q _ H (Same.refl H) rfl⟩
  · split at h
    · rename_i hz
      cases h
      exact .inr ⟨_, _, r1.int, r2.int, hz, q _ H (Same.refl H) rfl⟩
    · cases h
def dPow : D → D → Option S
  | .int a, .int b => if 0 ≤ b ∧ b ≤ 1000000 ∧ a.natAbs < 18446744073709551616 then some (.v (.int (a ^ b.toNat))) else none
  | _, _ => none
theorem o_pow (A : At g X) : Op2 X (binaryOp .Pow) dPow := by
  refine ⟨_, op_pow, fun x y H Q d e s r1 r2 h q => ?_⟩
  cases d <;> cases e <;> simp only [dPow] at h <;> try (cases h; done)
  split at h
  · rename_i hz
    cases h
    exact ⟨_, _, r1.int, r2.int, hz, q _ H (Same.refl H) rfl⟩
  · cases h
def dShl : D → D → Option S
  | .int a, .int b => if 0 ≤ b ∧ b ≤ 1000000 ∧ a.natAbs < 18446744073709551616 then some (.v (.int (a * 2 ^ b.toNat))) else none
  | _, _ => none
theorem o_shl (A : At g X) : Op2 X (binaryOp .LShift) dShl := by
  refine ⟨_, op_shl, fun x y H Q d e s r1 r2 h q => ?_⟩
  cases d <;> cases e <;> simp only [dShl] at h <;> try (cases h; done)
  split at h
  · rename_i hz
    cases h
    exact ⟨_, _, r1.int, r2.int, hz, q _ H (Same.refl H) rfl⟩
  · cases h
def dShr : D → D → Option S
  | .int a, .int b => if 0 ≤ b then some (.v (.int (a / 2 ^ b.toNat))) else none
  | _, _ => none
theorem o_shr (A : At g X) : Op2 X (binaryOp .RShift) dShr := by
  refine ⟨_, op_shr, fun x y H Q d e s r1 r2 h q => ?_⟩
  cases d <;> cases e <;> simp only [dShr] at h <;> try (cases h; done)
  split at h
  · rename_i hz
    cases h
    exact ⟨_, _, r1.int, r2.int, hz, q _ H (Same.refl H) rfl⟩
  · cases h
def dBand : D → D → Option S
  | .int a, .int b => some (.v (.int (Builtin.bitAnd a b)))
  | _, _ => none
theorem o_band (A : At g X) : Op2 X (binaryOp .BitAnd) dBand := by
  refine ⟨_, op_and, fun x y H Q d e s r1 r2 h q => ?_⟩
  cases d <;> cases e <;> simp only [dBand] at h <;> cases h
  exact ⟨_, _, r1.int, r2.int, q _ H (Same.refl H) rfl⟩
def dBor : D → D → Option S
  | .int a, .int b => some (.v (.int (Builtin.bitOr a b)))
  | _, _ => none
theorem o_bor (A : At g X) : Op2 X (binaryOp .BitOr) dBor := by
  refine ⟨_, op_or, fun x y H Q d e s r1 r2 h q => ?_⟩
  cases d <;> cases e <;> simp only [dBor] at h <;> cases h
  exact ⟨_, _, r1.int, r2.int, q _ H (Same.refl H) rfl⟩
def dBxor : D → D → Option S
  | .int a, .int b => some (.v (.int (Builtin.bitXor a b)))
  | _, _ => none
theorem o_bxor (A : At g X) : Op2 X (binaryOp .BitXor) dBxor := by
  refine ⟨_, op_xor, fun x y H Q d e s r1 r2 h q => ?_⟩
  cases d <;> cases e <;> simp only [dBxor] at h <;> cases h
  exact ⟨_, _, r1.int, r2.int, q _ H (Same.refl H) rfl⟩
def dNeg : D → Option S
  | .int a => some (.v (.int (-a)))
  | _ => none
theorem o_neg (A : At g X) : ∃ r, UnR X (unaryOp .USub) r ∧ Un1 X r dNeg := by
  refine ⟨_, un_neg, fun x H Q d s r1 h q => ?_⟩
  cases d <;> simp only [dNeg] at h <;> cases h
  exact ⟨_, r1.int, q _ H (Same.refl H) rfl⟩
/-! ### in -/
def keyOf : D → Option (Sum Key (List Key))
  | .int i => some (.inl (.inl i))
  | .str x => some (.inl (.inr x))
  | .tup ds => (keysD ds).map .inr
  | _ => none
/-- the value at a key -/
def dicGet (kvs : List (D × D)) (k : D) : Option D := (kvs.find? fun kv => eqD kv.1 k).map (·.2)
def strIn (a b : Str) : Bool := !(Builtin.Str.occurrences b a 0 b.length 1).isEmpty
def inL (d : D) (es : List D) : Option Bool := if shp d = true ∧ PyData.canLayAll0 (toPyL es) = true then some (es.any fun e => eqD e d) else none
def dIn : D → D → Option Bool
  | .str a, .str b => some (strIn a b)
  | d, .tup es => inL d es
  | d, .lst es => inL d es
  | d, .ktp es => inL d es
  | d, .dic t kvs => (kOf t d).map fun k => (gGet t kvs k).isSome
  | _, _ => none
def dNotIn (d e : D) : Option Bool := (dIn d e).map (!·)
theorem any_toPyL (d : D) : ∀ es : List D, ((toPyL es).any fun y => PyData.eqv y (toPy d)) = es.any fun e => eqD e d
  | [] => rfl
  | e :: es => by
    show (PyData.eqv (toPy e) (toPy d) || (toPyL es).any fun y => PyData.eqv y (toPy d)) = _
    rw [any_toPyL d es]; rfl
def rInS (K : PySem.W.Frag) (neg : Bool) : R2 := fun x y H Q => ∃ d ds, Dp K H x d ∧ (Dp K H y (.list ds) ∨ Dp K H y (.tuple ds)) ∧ SeqAt.shaped d = true ∧ PyData.canLayAll0 ds = true ∧ Q (.bl (if neg then !(ds.any fun z => PyData.eqv z d) else ds.any fun z => PyData.eqv z d)) H
theorem room_in {d : PyData} {ds : List PyData} (h : SeqAt.shaped d = true) (A : At g X) : X.A.units + 1 + min (PyData.depthAll ds) d.depth < cLine := by
  have h1 := SeqAt.depth_of_shaped h
  have h2 := Nat.min_le_right (PyData.depthAll ds) d.depth
  have h3 := A.room.un
  omega
theorem op_inS (A : At g X) : OpR X (compareOp .In) (rInS X.K false) := by
  intro pins s σ H x y v u Q I rx ry h
  obtain ⟨d, ds, hd, he, sd, se, q⟩ := h
  obtain ⟨as, r1⟩ := Dp.reads I d x v hd rx
  rcases he with he | he
  · obtain ⟨bs, r2⟩ := Dp.reads I (.list ds) y u he ry
    exact SeqAt.in_list_reads r2 r1 se (SeqAt.canLay_of_shaped sd) (room_in sd A) ⟨.bl _, H, I, rfl, q⟩
  · obtain ⟨bs, r2⟩ := Dp.reads I (.tuple ds) y u he ry
    exact SeqAt.in_tuple_reads r2 r1 se (SeqAt.canLay_of_shaped sd) (room_in sd A) ⟨.bl _, H, I, rfl, q⟩
theorem op_notInS (A : At g X) : OpR X (compareOp .NotIn) (rInS X.K true) := by
  intro pins s σ H x y v u Q I rx ry h
  obtain ⟨d, ds, hd, he, sd, se, q⟩ := h
  obtain ⟨as, r1⟩ := Dp.reads I d x v hd rx
  rcases he with he | he
  · obtain ⟨bs, r2⟩ := Dp.reads I (.list ds) y u he ry
    exact SeqAt.notIn_list_reads r2 r1 se (SeqAt.canLay_of_shaped sd) (room_in sd A) ⟨.bl _, H, I, rfl, q⟩
  · obtain ⟨bs, r2⟩ := Dp.reads I (.tuple ds) y u he ry
    exact SeqAt.notIn_tuple_reads r2 r1 se (SeqAt.canLay_of_shaped sd) (room_in sd A) ⟨.bl _, H, I, rfl, q⟩
def rInDc : R2 := fun y x H Q => ∃ a o, x = .ref a ∧ DGet H a y o ∧ Q (.bl o.isSome) H
def rNotInDc : R2 := fun y x H Q => ∃ a o, x = .ref a ∧ DGet H a y o ∧ Q (.bl (!o.isSome)) H
theorem op_inDc (A : At g X) : OpR X (compareOp .In) rInDc := by
  intro pins s σ H y x u v Q I ry rx h
  obtain ⟨a, o, ex, g1, q⟩ := h
  subst ex
  obtain rfl : v = Value.ref a := rx
  exact d_in (by have := A.room.un; omega) I g1 ry fun s3 I3 => ⟨.bl o.isSome, H, I3, rfl, q⟩
theorem op_notInDc (A : At g X) : OpR X (compareOp .NotIn) rNotInDc := by
  intro pins s σ H y x u v Q I ry rx h
  obtain ⟨a, o, ex, g1, q⟩ := h
  subst ex
  obtain rfl : v = Value.ref a := rx
  exact d_notIn (by have := A.room.un; omega) I g1 ry fun s3 I3 => ⟨.bl (!o.isSome), H, I3, rfl, q⟩
theorem inDc_of {K : PySem.W.Frag} {H : Hp} {d : D} {t : Bool} {kvs : List (D × D)} {x y : V} {k : Bool} (r1 : Rd K H d x) (r2 : Rd K H (.dic t kvs) y) (h : ((kOf t d).map fun k => (gGet t kvs k).isSome) = some k) :
    ∃ a o, y = .ref a ∧ DGet H a x o ∧ o.isSome = k := by
  cases e : kOf t d with
  | none => rw [e] at h; cases h
  | some kk =>
    rw [e] at h
    cases h
    obtain ⟨a, o, h1, h2, h3⟩ := dget_of r2 r1 e
    exact ⟨a, o, h1, h2, h3.some_eq⟩
theorem inS_of {K : PySem.W.Frag} {H : Hp} {d e : D} {x y : V} {es : List D} {k : Bool} (he : e = .tup es ∨ e = .lst es ∨ e = .ktp es) (r1 : Rd K H d x) (r2 : Rd K H e y) (h : inL d es = some k) :
    ∃ dd ds, Dp K H x dd ∧ (Dp K H y (.list ds) ∨ Dp K H y (.tuple ds)) ∧ SeqAt.shaped dd = true ∧ PyData.canLayAll0 ds = true ∧ (ds.any fun z => PyData.eqv z dd) = k := by
  unfold inL at h
  split at h
  · rename_i hz
    cases h
    refine ⟨toPy d, toPyL es, dp_rd r1 (lay_of_shp hz.1), ?_, hz.1, hz.2, any_toPyL d es⟩
    rcases he with rfl | rfl | rfl
    · exact .inr (dp_rd r2 (by simpa [toPy, PyData.canLay0] using hz.2))
    · exact .inl (dp_rd r2 (by simpa [toPy, PyData.canLay0] using hz.2))
    · exact .inr (dp_rd r2 (by simpa [toPy, PyData.canLay0] using hz.2))
  · cases h
def rInD2 (neg : Bool) : R2 := fun y x H Q => ∃ a o, x = .ref a ∧ DGet H a y o ∧ Q (.bl (if neg then !o.isSome else o.isSome)) H
theorem op_inDic (A : At g X) : OpR X (compareOp .In) (rInD2 false) := by
  intro pins s σ H y x iv u Q I ry rx h
  obtain ⟨a, o, ex, hg, q⟩ := h
  subst ex
  obtain rfl : u = Value.ref a := rx
  exact d_in (by have := A.room.un; omega) I hg ry fun s3 I3 => ⟨.bl o.isSome, H, I3, rfl, q⟩
theorem op_notInDic (A : At g X) : OpR X (compareOp .NotIn) (rInD2 true) := by
  intro pins s σ H y x iv u Q I ry rx h
  obtain ⟨a, o, ex, hg, q⟩ := h
  subst ex
  obtain rfl : u = Value.ref a := rx
  exact d_notIn (by have := A.room.un; omega) I hg ry fun s3 I3 => ⟨.bl (!o.isSome), H, I3, rfl, q⟩
theorem o_in (A : At g X) : OpB X (compareOp .In) dIn := by
  refine ⟨_, OpR.or op_in_str (OpR.or (op_inS A) (op_inDc A)), fun x y H Q d e k r1 r2 h q => ?_⟩
  have key : ∀ es, (e = .tup es ∨ e = .lst es ∨ e = .ktp es) → inL d es = some k → rInS X.K false x y H Q := fun es he hk => by
    obtain ⟨dd, ds, h1, h2, h3, h4, h5⟩ := inS_of he r1 r2 hk
    exact ⟨dd, ds, h1, h2, h3, h4, by rw [h5]; exact q⟩
  cases e with
  | tup es => exact .inr (.inl (key es (.inl rfl) (by cases d <;> exact h)))
  | lst es => exact .inr (.inl (key es (.inr (.inl rfl)) (by cases d <;> exact h)))
  | ktp es => exact .inr (.inl (key es (.inr (.inr rfl)) (by cases d <;> exact h)))
  | dic t kvs =>
    obtain ⟨a, o, h1, h2, h3⟩ := inDc_of r1 r2 (k := k) (by cases d <;> exact h)
    exact .inr (.inr ⟨a, o, h1, h2, by rw [h3]; exact q⟩)
  | str b =>
    cases d with
    | str a => cases h; exact .inl ⟨_, _, r1.str, r2.str, q⟩
    | _ => cases h
  | _ => cases d <;> cases h
theorem o_notin (A : At g X) : OpB X (compareOp .NotIn) dNotIn := by
  refine ⟨_, OpR.or op_notin_str (OpR.or (op_notInS A) (op_notInDc A)), fun x y H Q d e k r1 r2 h q => ?_⟩
  unfold dNotIn at h
  have key : ∀ es, (e = .tup es ∨ e = .lst es ∨ e = .ktp es) → (inL d es).map (!·) = some k → rInS X.K true x y H Q := fun es he hk => by
    cases hi : inL d es with
    | none => rw [hi] at hk; cases hk
    | some k' =>
      rw [hi] at hk
      cases hk
      obtain ⟨dd, ds, h1, h2, h3, h4, h5⟩ := inS_of he r1 r2 hi
      exact ⟨dd, ds, h1, h2, h3, h4, by rw [h5]; exact q⟩
  cases e with
  | tup es => exact .inr (.inl (key es (.inl rfl) (by cases d <;> exact h)))
  | lst es => exact .inr (.inl (key es (.inr (.inl rfl)) (by cases d <;> exact h)))
  | ktp es => exact .inr (.inl (key es (.inr (.inr rfl)) (by cases d <;> exact h)))
  | dic t kvs =>
    cases hi : (kOf t d).map fun k => (gGet t kvs k).isSome with
    | none => exfalso; cases d <;> (simp only [dIn] at h; rw [hi] at h; cases h)
    | some k' =>
      obtain ⟨a, o, h1, h2, h3⟩ := inDc_of r1 r2 hi
      have e : k = !k' := by cases d <;> (simp only [dIn] at h; rw [hi] at h; cases h; rfl)
      exact .inr (.inr ⟨a, o, h1, h2, by rw [h3, ← e]; exact q⟩)
  | str b =>
    cases d with
    | str a => cases h; exact .inl ⟨_, _, r1.str, r2.str, q⟩
    | _ => cases h
  | _ => cases d <;> cases h
end
end PL

namespace PL
open PySem PySem.Spec PyProof.Rows L2
/-! ### subscripts -/
theorem immL_atI {K : PySem.W.Frag} {H : Hp} {ds : List D} {vs : List V} {i : Int} {d : D} (h : ImmL K H ds vs) (e : atI ds i = some d) : ∃ v, atI vs i = some v ∧ Imm K H d v := by
  unfold atI at e ⊢
  rw [h.len]
  cases hi : ixN ds.length i with
  | none => rw [hi] at e; cases e
  | some j =>
    rw [hi] at e
    exact h.get' e
def dIxS : D → D → Option S
  | .tup ds, .int i => (atI ds i).map .v
  | .lst ds, .int i => (atI ds i).map .v
  | .scr ns, .int i => (atI ns i).map fun n => .v (.int n)
  | .ktp ds, .int i => (atI ds i).map .v
  | .str z, .int i => if z.length ≤ 16777216 then (atI z.cps.toList i).map fun c => .v (.str ⟨#[c]⟩) else none
  | _, _ => none
def dIx : D → D → Option S
  | .dic t kvs, d => (kOf t d).bind fun k => (gGet t kvs k).map .v
  | d1, d2 => dIxS d1 d2
theorem atI_map {α β : Type} (f : α → β) (xs : List α) (i : Int) : atI (xs.map f) i = (atI xs i).map f := by
  unfold atI
  rw [List.length_map]
  cases ixN xs.length i with
  | none => rfl
  | some j => simp
def rIxDc : R2 := fun x y H Q => ∃ a v, x = .ref a ∧ DGet H a y (some v) ∧ Q v H
theorem ix_dc {X : Cx} (hu : X.A.units + 1 < cLine) : IxR X rIxDc := by
  intro value slice pins s σ H x y v u Q I rx ry h hs
  obtain ⟨a, z, ex, g1, q⟩ := h
  subst ex
  obtain rfl : v = Value.ref a := rx
  have hT := dict_typeIs I g1
  have h2 := d_getItem hu I g1 ry (Q := EP X pins σ Q) (E := X.xe) fun w' s3 I3 rw' => ⟨z, H, I3, rw', q⟩
  unfold subscriptTail
  refine wpAny_bind ?_
  rw [getitemInPython_of_ne hT.not_modules]
  refine wpAny_bind (wpAny_specialOf hT PySem.F.slot_dict_getitem.lookup ?_)
  have fin : wpAny (model X.prog X.w) X.A (subscripted slice false (.ref a) u) (fun r s₃ => wpAny (model X.prog X.w) X.A (letTemporaryGo value (.ref a) r >>= fun _ => pure r) (EP X pins σ Q) X.xe s₃) X.xe s := by
    rw [hs]
    exact wpAny_operating (wpAny_mono h2 (fun r s₃ h₃ => wpAny_bind (wpAny_letTemporaryGo (wpAny_pure h₃))) fun _ _ x => x)
  first
    | exact wpAny_pure (wpAny_bind fin)
    | exact wpAny_bind (wpAny_pure (wpAny_bind fin))
    | exact wpAny_bind fin
def rIxA (K : PySem.W.Frag) : R2 := fun x y H Q => rIx K x y H Q ∨ rIxDc x y H Q
section
variable {g : Cf} {X : Cx} {e a b c : Expr} {es : List Expr} {pos : Pos}
theorem read_ix {x y : V} {H : Hp} {Q : VK} {d1 d2 : D} {s : S} (r1 : Rd X.K H d1 x) (r2 : Rd X.K H d2 y) (h : dIxS d1 d2 = some s) (q : ∀ z H', Same H H' → RS X.K H H' s z → Q z H') : rIx X.K x y H Q := by
  cases d1 <;> cases d2 <;> simp only [dIxS] at h <;> try (cases h; done)
  · split at h
    · rename_i z i hz
      cases he : atI z.cps.toList i with
      | none => rw [he] at h; cases h
      | some c =>
        rw [he] at h
        cases h
        exact .inr (.inr ⟨z, i, c, r1.str, r2.int, line_le hz, he, q _ H (Same.refl H) rfl⟩)
    · cases h
  · rename_i ds i
    obtain ⟨a, vs, e1, s1, i1⟩ := r1.tup
    cases he : atI ds i with
    | none => rw [he] at h; cases h
    | some d =>
      rw [he] at h
      cases h
      obtain ⟨v, hv, im⟩ := immL_atI i1 he
      exact .inr (.inl ⟨a, vs, i, v, e1, r2.int, s1.seq, hv, q _ H (Same.refl H) im⟩)
  · rename_i ds i
    obtain ⟨a, vs, e1, s1, i1⟩ := r1.lst
    cases he : atI ds i with
    | none => rw [he] at h; cases h
    | some d =>
      rw [he] at h
      cases h
      obtain ⟨v, hv, im⟩ := immL_atI i1 he
      exact .inl ⟨a, vs, i, v, e1, r2.int, s1, hv, q _ H (Same.refl H) im⟩
  · rename_i ns i
    obtain ⟨a, e1, s1⟩ := r1.scr
    cases he : atI ns i with
    | none => rw [he] at h; cases h
    | some d =>
      rw [he] at h
      cases h
      exact .inl ⟨a, _, i, .int d, e1, r2.int, s1, by rw [atI_map, he]; rfl, q _ H (Same.refl H) rfl⟩
  · rename_i ds i
    obtain ⟨a, vs, e1, s1, i1⟩ := r1.ktp
    cases he : atI ds i with
    | none => rw [he] at h; cases h
    | some d =>
      rw [he] at h
      cases h
      obtain ⟨v, hv, im⟩ := immL_atI i1 he
      exact .inr (.inl ⟨a, vs, i, v, e1, r2.int, s1.seq, hv, q _ H (Same.refl H) im⟩)
theorem read_ixA {x y : V} {H : Hp} {Q : VK} {d1 d2 : D} {s : S} (r1 : Rd X.K H d1 x) (r2 : Rd X.K H d2 y) (h : dIx d1 d2 = some s) (q : ∀ z H', Same H H' → RS X.K H H' s z → Q z H') : rIxA X.K x y H Q := by
  unfold dIx at h
  split at h
  · rename_i t kvs
    cases e : kOf t d2 with
    | none => rw [e] at h; cases h
    | some k =>
      rw [e] at h
      obtain ⟨a, o, h1, h2, h3⟩ := dget_of r1 r2 e
      cases e2 : gGet t kvs k with
      | none => rw [Option.bind_some, e2] at h; cases h
      | some d =>
        rw [Option.bind_some, e2] at h
        rw [e2] at h3
        obtain ⟨v, rfl, im⟩ := h3
        cases h
        exact .inr ⟨a, v, h1, h2, q v H (Same.refl H) im⟩
  · exact .inl (read_ix r1 r2 h q)
theorem e_ix {fa fb : Ex} (ha : EOk g a fa) (hb : EOk g b fb) (hs : PlainIx b := by intro _ _; rfl) : EOk g (.Subscript a b pos) (e2 dIx fa fb) := fun X W A tk =>
  PE.imp (pe_ix (IxR.or ix_seq (ix_dc (by have := A.room.un; omega))) (ha.n A tk) (hb.n A tk) hs) fun σ H Q t => read2 (r := rIxA X.K) (fun x y H Q d1 d2 s r1 r2 h q => read_ixA r1 r2 h q) t
/-! ### slices -/
def cutG {α : Type} (xs : List α) (lo hi : Option Int) : List α := (xs.drop (HT.sIx xs.length 0 lo)).take (HT.sIx xs.length xs.length hi - HT.sIx xs.length 0 lo)
theorem immL_cut {K : PySem.W.Frag} {H : Hp} {ds : List D} {vs : List V} (h : ImmL K H ds vs) (lo hi : Option Int) : ImmL K H (cutG ds lo hi) (cutV vs lo hi) := by
  unfold cutG cutV
  rw [h.len]
  exact (h.drop _).take _
theorem cut_whole {α : Type} (xs : List α) (lo hi : Option Int) (h : HT.sIx xs.length 0 lo = 0 ∧ HT.sIx xs.length xs.length hi = xs.length) : cutG xs lo hi = xs := by
  unfold cutG
  rw [h.1, h.2]
  simp
theorem cutV_map {α : Type} (f : α → V) (xs : List α) (lo hi : Option Int) : cutV (xs.map f) lo hi = (cutG xs lo hi).map f := by
  unfold cutG cutV
  rw [List.length_map, List.map_take, List.map_drop]
def dSl : D → Option Int → Option Int → Option S
  | .tup ds, lo, hi => some (.v (.tup (cutG ds lo hi)))
  | .lst ds, lo, hi => some (.o (.lst (cutG ds lo hi)))
  | .scr ns, lo, hi => some (.o (.lst ((cutG ns lo hi).map .int)))
  | .str z, lo, hi => if z.length ≤ 16777216 then some (.v (.str (cutS z lo hi))) else none
  | _, _, _ => none
theorem immL_map_int {K : PySem.W.Frag} {H : Hp} : ∀ ns : List Int, ImmL K H (ns.map .int) (ns.map V.int)
  | [] => rfl
  | n :: ns => ⟨_, _, rfl, rfl, immL_map_int ns⟩
abbrev Px := Rho → Out (Option Int × Rho)
def tP (K : PySem.W.Frag) (g : Cf) (f : Px) (W : WX) : L2.TO := fun σ H Q => ∃ ρ, ER K g ρ σ H ∧ Pst K g σ H W (fun p H' => ER K g p.2 σ H' → Q p.1 H') (f ρ)
def POk (g : Cf) (e : Option Expr) (f : Px) : Prop := ∀ (X : Cx) (W : WX), At g X → Takes X W → L2.PO X e (tP X.K g f W)
theorem PO.imp {X : Cx} {e : Option Expr} {t t' : L2.TO} (h : L2.PO X e t) (hi : ∀ σ H Q, t' σ H Q → t σ H Q) : L2.PO X e t' := ⟨fun pins s σ H Q I q => h.run pins s σ H Q I (hi σ H Q q)⟩
def pNo : Px := fun ρ => .ok (none, ρ)
def dInt : D → Option Int
  | .int i => some i
  | _ => none
def pSo (f : Ex) : Px := fun ρ => f ρ >>= fun p => pk p.2 p.1 >>= fun d => liftO (dInt d) >>= fun i => .ok (some i, p.2)
theorem p_no : POk g none pNo := fun X W A tk => PO.imp po_none fun σ H Q ⟨ρ, R, q⟩ => q H (Ext.refl H) R
theorem p_so {f : Ex} (h : EOk g e f) : POk g (some e) (pSo f) := fun X W A tk => by
  refine PO.imp (po_some (h.n A tk)) fun σ H Q ⟨ρ, R, q⟩ => tN_step R q fun s1 ρ1 x H1 R1 E1 n1 q1 => ?_
  obtain ⟨d1, h1, q3⟩ := q1.pk
  obtain ⟨i, ho, q5⟩ := q3.opt
  have rd := pk_rd n1 R1 (Ext.refl _) h1
  cases d1 <;> simp only [dInt] at ho <;> cases ho
  exact ⟨i, rd.int, q5 H1 (Ext.refl _) R1⟩
theorem tP_step {K : PySem.W.Frag} {σ : L2.St} {H : Hp} {W : WX} {β : Type} {G : β → Hp → Prop} {ρ : Rho} {fa : Px} {k : Option Int × Rho → Out β} {Q : Option Int → Hp → Prop} (R : ER K g ρ σ H) (q : Pst K g σ H W G (fa ρ >>= k))
    (h : ∀ s ρ1 H1, ER K g ρ1 σ H1 → Ext H H1 → Pst K g σ H1 W G (k (s, ρ1)) → Q s H1) : tP K g fa W σ H Q := by
  refine ⟨ρ, R, ?_⟩
  cases ha : fa ρ with
  | stuck => rw [ha] at q; exact q.elim
  | exc c ρ1 => rw [ha] at q; exact q
  | ok p =>
    rw [ha] at q
    exact fun H1 E1 R1 => h p.1 p.2 H1 R1 E1 (Pst.ext E1 (r := k p) q)
def eSl (f : Ex) (lo hi : Px) : Ex := fun ρ => f ρ >>= fun p => lo p.2 >>= fun q => hi q.2 >>= fun r => pk r.2 p.1 >>= fun d => liftO (dSl d q.1 r.1) >>= fun s => .ok (s, r.2)
theorem e_sl {lo hi : Option Expr} {f : Ex} {fl fh : Px} {p2 : Pos} (h : EOk g e f) (hl : POk g lo fl) (hh : POk g hi fh) : EOk g (.Subscript e (.Slice lo hi none p2) pos) (eSl f fl fh) := fun X W A tk => by
  refine PE.imp (pe_slice (SlR.or sl_list (SlR.or sl_tupA sl_str)) (h.n A tk) (hl X W A tk) (hh X W A tk)) fun σ H Q ⟨ρ, R, q⟩ => ?_
  refine tN_step R q fun s1 ρ1 x H1 R1 E1 n1 q1 => tP_step R1 q1 fun l ρ2 H2 R2 E2 q2 => tP_step R2 q2 fun u ρ3 H3 R3 E3 q3 => ?_
  obtain ⟨d, h1, q4⟩ := q3.pk
  obtain ⟨s, ho, q5⟩ := q4.opt
  have rd := pk_rd n1 R3 (E2.trans E3) h1
  have fin : ∀ z H', Same H3 H' → RS X.K H3 H' s z → Q z H' := fun z H' sm rs => q5 H' (Ext.of_same sm) (R3.same sm) z (rs.sr R3)
  cases d <;> simp only [dSl] at ho <;> try (cases ho; done)
  · split at ho
    · rename_i z hz
      cases ho
      exact .inr (.inr ⟨z, rd.str, line_le hz, fin _ H3 (Same.refl _) rfl⟩)
    · cases ho
  · cases ho
    obtain ⟨a, vs, e1, s1, i1⟩ := rd.tup
    refine .inr (.inl ⟨a, vs, e1, s1.seq, fun hw => ?_, fun hw p hp => ?_⟩)
    · rw [i1.len] at hw
      rw [cut_whole _ _ _ hw] at fin
      exact fin _ H3 (Same.refl _) ⟨a, vs, rfl, s1, i1⟩
    · exact fin _ _ (new_tup (K := X.K) hp) ⟨p, _, rfl, TpT.of upd_same, ImmL.ext (Ext.of_same (new_tup (K := X.K) hp)) _ _ (immL_cut i1 _ _)⟩
  · cases ho
    obtain ⟨a, vs, e1, s1, i1⟩ := rd.lst
    exact .inl ⟨a, vs, e1, s1, fun p hp => fin _ _ (new_tup (K := X.K) hp) ⟨p, rfl, hp, _, upd_same, ImmL.ext (Ext.of_same (new_tup (K := X.K) hp)) _ _ (immL_cut i1 _ _)⟩⟩
  · cases ho
    obtain ⟨a, e1, s1⟩ := rd.scr
    exact .inl ⟨a, _, e1, s1, fun p hp => fin _ _ (new_tup (K := X.K) hp) ⟨p, rfl, hp, _, upd_same, by rw [cutV_map]; exact immL_map_int _⟩⟩
/-- xs[::-1] of a list -/
def dRev : D → Option S
  | .lst ds => some (.o (.lst ds.reverse))
  | _ => none

/-! ### calls of built-ins, by the values -/
def CR (X : Cx) (f : Value) (od : List D → Option S) : Prop :=
  ∃ r : List V → Hp → VK → Prop, CallR X f r ∧ ∀ (xs : List V) (H : Hp) (Q : VK) (ds : List D) (s : S), Paired (Rd X.K H) ds xs → od ds = some s → (∀ z H', Same H H' → RS X.K H H' s z → Q z H') → r xs H Q
def pkL (ρ : Rho) : List S → Out (List D)
  | [] => .ok []
  | s :: ss => pk ρ s >>= fun d => pkL ρ ss >>= fun ds => .ok (d :: ds)
theorem pkL_rd {K : PySem.W.Frag} {ρ' : Rho} {σ : L2.St} {H : Hp} (R : ER K g ρ' σ H) : ∀ {ss : List S} {xs : List V} {ds : List D}, NRL K σ H ss xs → pkL ρ' ss = .ok ds → Paired (Rd K H) ds xs
  | [], _, _, n, h => by cases h; cases (show _ = _ from n); exact .nil
  | s :: ss, _, ds, ⟨x, r, e, n1, n2⟩, h => by
    subst e
    unfold pkL at h
    cases h1 : pk ρ' s with
    | stuck => rw [h1] at h; cases h
    | exc c ρ1 => exact (pk_noexc h1).elim
    | ok d =>
      rw [h1] at h
      simp only [bind_ok] at h
      cases h2 : pkL ρ' ss with
      | stuck => rw [h2] at h; cases h
      | exc c ρ1 => rw [h2] at h; cases h
      | ok es =>
        rw [h2] at h
        cases h
        exact .cons (pk_rd n1 R (Ext.refl _) h1) (pkL_rd R n2 h2)
theorem pkL_noexc {ρ ρ' : Rho} {c : Str} : ∀ {ss : List S}, pkL ρ ss = .exc c ρ' → False
  | [], h => nomatch h
  | s :: ss, h => by
    unfold pkL at h
    cases h1 : pk ρ s with
    | stuck => rw [h1] at h; cases h
    | exc c ρ1 => exact (pk_noexc h1).elim
    | ok d =>
      rw [h1] at h
      simp only [bind_ok] at h
      cases h2 : pkL ρ ss with
      | stuck => rw [h2] at h; cases h
      | exc c ρ1 => exact pkL_noexc h2
      | ok es => rw [h2] at h; cases h
theorem Pst.pkL {K : PySem.W.Frag} {σ : L2.St} {H : Hp} {W : WX} {β : Type} {G : β → Hp → Prop} {ρ : Rho} {s : List S} {k : List D → Out β} (q : Pst K g σ H W G (PL.pkL ρ s >>= k)) : ∃ d, PL.pkL ρ s = .ok d ∧ Pst K g σ H W G (k d) := by
  cases h : PL.pkL ρ s with
  | stuck => rw [h] at q; exact q.elim
  | exc c ρ' => exact (pkL_noexc h).elim
  | ok d => rw [h] at q; exact ⟨d, rfl, q⟩
def eB (od : List D → Option S) (fa : Ax) : Ex := fun ρ => fa ρ >>= fun p => pkL p.2 p.1 >>= fun ds => liftO (od ds) >>= fun s => .ok (s, p.2)
theorem readCB {X : Cx} {W : WX} {r : List V → Hp → VK → Prop} {od : List D → Option S} {fa : Ax} {σ : L2.St} {H : Hp} {Q : VK}
    (h : ∀ (xs : List V) (H : Hp) (Q : VK) (ds : List D) (s : S), Paired (Rd X.K H) ds xs → od ds = some s → (∀ z H', Same H H' → RS X.K H H' s z → Q z H') → r xs H Q)
    (t : tE X.K g (eB od fa) W σ H Q) : tA X.K g fa W σ H fun xs H1 => r xs H1 Q := by
  obtain ⟨ρ, R, q⟩ := t
  refine tA_step R q fun ss ρ1 xs H1 R1 E1 n1 q1 => ?_
  obtain ⟨ds, h1, q3⟩ := q1.pkL
  obtain ⟨s, ho, q5⟩ := q3.opt
  exact h xs H1 Q ds s (pkL_rd R1 n1 h1) ho fun z H' sm rs => q5 H' (Ext.of_same sm) (R1.same sm) z (rs.sr R1)
theorem e_cb {x : Str} {id : String} {p : Pos} {od : List D → Option S} {fa : Ax} (hc : ∀ X, At g X → CR X (.builtin id) od) (hm : g.mg x = none) (hv : bootBuiltins x = some (.builtin id)) (ha : AOk g (e :: es) fa) (hg : Glo g x := by rfl)
    (hn : x ≠ "__name__" := by decide) (hdb : (x == ("__debug__" : Str)) = false := by decide)
    (he : ∀ env, starEach (e :: es) env = (false, eval e env) :: starEach es env := by intro _; rfl) (hpl : ∀ env, (backTo pos (starEach es env)).any (·.1) = false := by intro _; rfl) : EOk g (.Call (.Name x p) (e :: es) [] pos) (eB od fa) := fun X W A tk => by
  obtain ⟨r, hr, h⟩ := hc X A
  exact PE.imp (pe_callB hr (hg.gl A) (by rw [A.mg]; exact hm) hv (ha X W A tk) hn hdb (he _) (hpl _)) fun σ H Q t => readCB h t
theorem e_cty {x : Str} {T : String} {p : Pos} {od : List D → Option S} {fa : Ax} (hc : ∀ X, At g X → CR X (.type T) od) (hm : g.mg x = none) (hv : bootBuiltins x = some (.type T)) (ha : AOk g (e :: es) fa) (hg : Glo g x := by rfl)
    (hn : x ≠ "__name__" := by decide) (hdb : (x == ("__debug__" : Str)) = false := by decide)
    (he : ∀ env, starEach (e :: es) env = (false, eval e env) :: starEach es env := by intro _; rfl) (hpl : ∀ env, (backTo pos (starEach es env)).any (·.1) = false := by intro _; rfl) : EOk g (.Call (.Name x p) (e :: es) [] pos) (eB od fa) := fun X W A tk => by
  obtain ⟨r, hr, h⟩ := hc X A
  exact PE.imp (pe_callTy hr (hg.gl A) (by rw [A.mg]; exact hm) hv (ha X W A tk) hn hdb (he _) (hpl _)) fun σ H Q t => readCB h t
end
end PL

namespace PL
open PySem PySem.Spec PyProof.Rows L2
theorem pair1 {α β : Type} {R : α → β → Prop} {d : α} {xs : List β} (h : Paired R [d] xs) : ∃ x, xs = [x] ∧ R d x := by
  cases h with
  | cons r t => cases t; exact ⟨_, rfl, r⟩
theorem pair2 {α β : Type} {R : α → β → Prop} {d e : α} {xs : List β} (h : Paired R [d, e] xs) : ∃ x y, xs = [x, y] ∧ R d x ∧ R e y := by
  cases h with
  | cons r t =>
    cases t with
    | cons r' t => cases t; exact ⟨_, _, rfl, r, r'⟩
theorem CallR.or {X : Cx} {f : Value} {r r' : List V → Hp → VK → Prop} (h : CallR X f r) (h' : CallR X f r') : CallR X f (fun xs H Q => r xs H Q ∨ r' xs H Q) := by
  intro pins s σ H xs us Q I rx q
  rcases q with q | q
  · exact h pins s σ H xs us Q I rx q
  · exact h' pins s σ H xs us Q I rx q
section
variable {g : Cf} {X : Cx} {e a b c : Expr} {es : List Expr} {pos : Pos}
/-! ### len, abs, int, str, tuple, list, sum .. -/
def dLen : List D → Option S
  | [.str z] => if z.length ≤ 16777216 then some (.v (.int z.length)) else none
  | [.tup ds] => some (.v (.int ds.length))
  | [.lst ds] => some (.v (.int ds.length))
  | [.scr ns] => some (.v (.int ns.length))
  | [.ktp ds] => some (.v (.int ds.length))
  | _ => none
theorem c_len (A : At g X) : CR X (.builtin "len") dLen := by
  refine ⟨_, call_len, fun xs H Q ds s p h q => ?_⟩
  match ds, h with
  | [.str z], h =>
    obtain ⟨x, rfl, r⟩ := pair1 p
    cases r.str
    simp only [dLen] at h
    split at h
    · rename_i hz
      cases h
      exact ⟨_, _, rfl, ⟨line_le hz, rfl⟩, q _ H (Same.refl H) rfl⟩
    · cases h
  | [.tup ds], h =>
    obtain ⟨x, rfl, r⟩ := pair1 p
    obtain ⟨a, vs, rfl, s1, i1⟩ := r.tup
    cases h
    exact ⟨_, ds.length, rfl, .inr ⟨vs, s1.seq, i1.len.symm⟩, q _ H (Same.refl H) rfl⟩
  | [.lst ds], h =>
    obtain ⟨x, rfl, r⟩ := pair1 p
    obtain ⟨a, vs, rfl, s1, i1⟩ := r.lst
    cases h
    exact ⟨_, ds.length, rfl, .inl ⟨vs, s1, i1.len.symm⟩, q _ H (Same.refl H) rfl⟩
  | [.scr ns], h =>
    obtain ⟨x, rfl, r⟩ := pair1 p
    obtain ⟨a, rfl, s1⟩ := r.scr
    cases h
    exact ⟨_, ns.length, rfl, .inl ⟨_, s1, by rw [List.length_map]⟩, q _ H (Same.refl H) rfl⟩
  | [.ktp ds], h =>
    obtain ⟨x, rfl, r⟩ := pair1 p
    obtain ⟨a, vs, rfl, s1, i1⟩ := r.ktp
    cases h
    exact ⟨_, ds.length, rfl, .inr ⟨vs, s1.seq, i1.len.symm⟩, q _ H (Same.refl H) rfl⟩
def dAbs : List D → Option S
  | [.int i] => some (.v (.int (if i < 0 then -i else i)))
  | _ => none
theorem c_abs (A : At g X) : CR X (.builtin "abs") dAbs := by
  refine ⟨_, call_abs, fun xs H Q ds s p h q => ?_⟩
  match ds, h with
  | [.int i], h =>
    obtain ⟨x, rfl, r⟩ := pair1 p
    cases h
    cases r.int
    exact ⟨i, rfl, q _ H (Same.refl H) rfl⟩
def dInt1 : List D → Option S
  | [.int i] => some (.v (.int i))
  | [.bl k] => some (.v (.int (if k then 1 else 0)))
  | _ => none
theorem c_int (A : At g X) : CR X (.type "int") dInt1 := by
  refine ⟨_, call_int1, fun xs H Q ds s p h q => ?_⟩
  match ds, h with
  | [.int i], h =>
    obtain ⟨x, rfl, r⟩ := pair1 p
    cases h
    cases r.int
    exact .inl ⟨i, rfl, q _ H (Same.refl H) rfl⟩
  | [.bl k], h =>
    obtain ⟨x, rfl, r⟩ := pair1 p
    cases h
    cases r.bl
    exact .inr ⟨k, rfl, q _ H (Same.refl H) rfl⟩
def dStr1 : List D → Option S
  | [.int i] => if i.natAbs.log2 < 1920 then some (.v (.str (Str.ofString (toString i)))) else none
  | _ => none
theorem c_str (A : At g X) : CR X (.type "str") dStr1 := by
  refine ⟨_, call_str_int, fun xs H Q ds s p h q => ?_⟩
  match ds, h with
  | [.int i], h =>
    obtain ⟨x, rfl, r⟩ := pair1 p
    simp only [dStr1] at h
    split at h
    · rename_i hz
      cases h
      cases r.int
      exact ⟨i, rfl, hz, q _ H (Same.refl H) rfl⟩
    · cases h
def dTup1 : List D → Option S
  | [.tup ds] => some (.v (.tup ds))
  | [.lst ds] => some (.v (.tup ds))
  | [.scr ns] => some (.v (.tup (ns.map .int)))
  | [.ktp ds] => some (.v (.ktp ds))
  | _ => none
theorem c_tup (A : At g X) : CR X (.type "tuple") dTup1 := by
  refine ⟨_, call_tuple_of, fun xs H Q ds s p h q => ?_⟩
  match ds, h with
  | [.tup ds], h =>
    obtain ⟨x, rfl, r⟩ := pair1 p
    obtain ⟨a, vs, rfl, s1, i1⟩ := r.tup
    cases h
    exact ⟨a, vs, rfl, .inr ⟨s1.seq, q _ H (Same.refl H) ⟨a, vs, rfl, s1, i1⟩⟩⟩
  | [.lst ds], h =>
    obtain ⟨x, rfl, r⟩ := pair1 p
    obtain ⟨a, vs, rfl, s1, i1⟩ := r.lst
    cases h
    exact ⟨a, vs, rfl, .inl ⟨s1, fun p hp => q _ _ (new_tup (K := X.K) hp) ⟨p, _, rfl, TpT.of upd_same, ImmL.ext (Ext.of_same (new_tup (K := X.K) hp)) _ _ i1⟩⟩⟩
  | [.scr ns], h =>
    obtain ⟨x, rfl, r⟩ := pair1 p
    obtain ⟨a, rfl, s1⟩ := r.scr
    cases h
    exact ⟨a, _, rfl, .inl ⟨s1, fun p hp => q _ _ (new_tup (K := X.K) hp) ⟨p, _, rfl, TpT.of upd_same, immL_map_int ns⟩⟩⟩
  | [.ktp ds], h =>
    obtain ⟨x, rfl, r⟩ := pair1 p
    obtain ⟨a, vs, rfl, s1, i1⟩ := r.ktp
    cases h
    exact ⟨a, vs, rfl, .inr ⟨s1.seq, q _ H (Same.refl H) ⟨a, vs, rfl, s1, i1⟩⟩⟩
def dLst1 : List D → Option S
  | [.tup ds] => some (.o (.lst ds))
  | [.lst ds] => some (.o (.lst ds))
  | [.scr ns] => some (.o (.lst (ns.map .int)))
  | [.ktp ds] => some (.o (.lst ds))
  | _ => none
theorem c_list (A : At g X) : CR X (.type "list") dLst1 := by
  refine ⟨_, call_list_of, fun xs H Q ds s p h q => ?_⟩
  match ds, h with
  | [.tup ds], h =>
    obtain ⟨x, rfl, r⟩ := pair1 p
    obtain ⟨a, vs, rfl, s1, i1⟩ := r.tup
    cases h
    exact ⟨a, vs, rfl, .inr s1.seq, fun p hp => q _ _ (new_tup (K := X.K) hp) ⟨p, rfl, hp, _, upd_same, ImmL.ext (Ext.of_same (new_tup (K := X.K) hp)) _ _ i1⟩⟩
  | [.ktp ds], h =>
    obtain ⟨x, rfl, r⟩ := pair1 p
    obtain ⟨a, vs, rfl, s1, i1⟩ := r.ktp
    cases h
    exact ⟨a, vs, rfl, .inr s1.seq, fun p hp => q _ _ (new_tup (K := X.K) hp) ⟨p, rfl, hp, _, upd_same, ImmL.ext (Ext.of_same (new_tup (K := X.K) hp)) _ _ i1⟩⟩
  | [.lst ds], h =>
    obtain ⟨x, rfl, r⟩ := pair1 p
    obtain ⟨a, vs, rfl, s1, i1⟩ := r.lst
    cases h
    exact ⟨a, vs, rfl, .inl s1, fun p hp => q _ _ (new_tup (K := X.K) hp) ⟨p, rfl, hp, _, upd_same, ImmL.ext (Ext.of_same (new_tup (K := X.K) hp)) _ _ i1⟩⟩
  | [.scr ns], h =>
    obtain ⟨x, rfl, r⟩ := pair1 p
    obtain ⟨a, rfl, s1⟩ := r.scr
    cases h
    exact ⟨a, _, rfl, .inl s1, fun p hp => q _ _ (new_tup (K := X.K) hp) ⟨p, rfl, hp, _, upd_same, immL_map_int ns⟩⟩
def blsD : List D → Option (List Bool)
  | [] => some []
  | .bl i :: ds => (blsD ds).map (i :: ·)
  | _ :: _ => none
theorem immL_bls {K : PySem.W.Frag} {H : Hp} : ∀ {ds : List D} {vs : List V} {ns : List Bool}, ImmL K H ds vs → blsD ds = some ns → vs = ns.map V.bl
  | [], _, _, h, e => by cases (show _ = _ from h); cases e; rfl
  | .bl i :: ds, _, ns, ⟨v, r, e1, h1, h2⟩, e => by
    subst e1
    cases (show _ = _ from h1)
    simp only [blsD] at e
    cases hh : blsD ds with
    | none => rw [hh] at e; cases e
    | some ms =>
      rw [hh] at e
      cases e
      rw [List.map_cons, immL_bls h2 hh]
  | .non :: _, _, _, _, e => nomatch e
  | .int _ :: _, _, _, _, e => nomatch e
  | .str _ :: _, _, _, _, e => nomatch e
  | .tup _ :: _, _, _, _, e => nomatch e
  | .lst _ :: _, _, _, _, e => nomatch e
  | .dic _ _ :: _, _, _, _, e => nomatch e
  | .scr _ :: _, _, _, _, e => nomatch e
  | .ktp _ :: _, _, _, _, e => nomatch e
def dAll : List D → Option S
  | [.lst ds] => (blsD ds).map fun bs => .v (.bl (bs.all id))
  | _ => none
def dAny : List D → Option S
  | [.lst ds] => (blsD ds).map fun bs => .v (.bl (bs.any id))
  | _ => none
theorem c_all (A : At g X) : CR X (.builtin "all") dAll := by
  refine ⟨_, cr_all A.calm, fun xs H Q ds s p h q => ?_⟩
  match ds, h with
  | [.lst ds], h =>
    obtain ⟨x, rfl, r⟩ := pair1 p
    obtain ⟨a, vs, rfl, s1, i1⟩ := r.lst
    simp only [dAll] at h
    cases hb : blsD ds with
    | none => rw [hb] at h; cases h
    | some bs =>
      rw [hb] at h
      cases h
      exact ⟨a, bs, rfl, by rw [← immL_bls i1 hb]; exact s1, q _ H (Same.refl H) rfl⟩
theorem c_any (A : At g X) : CR X (.builtin "any") dAny := by
  refine ⟨_, cr_any A.calm, fun xs H Q ds s p h q => ?_⟩
  match ds, h with
  | [.lst ds], h =>
    obtain ⟨x, rfl, r⟩ := pair1 p
    obtain ⟨a, vs, rfl, s1, i1⟩ := r.lst
    simp only [dAny] at h
    cases hb : blsD ds with
    | none => rw [hb] at h; cases h
    | some bs =>
      rw [hb] at h
      cases h
      exact ⟨a, bs, rfl, by rw [← immL_bls i1 hb]; exact s1, q _ H (Same.refl H) rfl⟩
def dSum : List D → Option S
  | [.lst ds] => (intsD ds).map fun ns => .v (.int ns.sum)
  | [.scr ns] => some (.v (.int ns.sum))
  | _ => none
theorem c_sum (A : At g X) : CR X (.builtin "sum") dSum := by
  refine ⟨_, cr_sum A.calm, fun xs H Q ds s p h q => ?_⟩
  match ds, h with
  | [.lst ds], h =>
    obtain ⟨x, rfl, r⟩ := pair1 p
    obtain ⟨a, vs, rfl, s1, i1⟩ := r.lst
    simp only [dSum] at h
    cases hb : intsD ds with
    | none => rw [hb] at h; cases h
    | some bs =>
      rw [hb] at h
      cases h
      exact ⟨a, bs, rfl, by rw [← immL_ints i1 hb]; exact s1, q _ H (Same.refl H) rfl⟩
  | [.scr ns], h =>
    obtain ⟨x, rfl, r⟩ := pair1 p
    obtain ⟨a, rfl, s1⟩ := r.scr
    cases h
    exact ⟨a, ns, rfl, s1, q _ H (Same.refl H) rfl⟩
/-- the greatest, the least of ints -/
def maxI : List Int → Int
  | [] => 0
  | n :: ns => ns.foldl max n
def minI : List Int → Int
  | [] => 0
  | n :: ns => ns.foldl min n
theorem foldl_max_spec : ∀ (ns : List Int) (a : Int), (a ≤ ns.foldl max a) ∧ (∀ y ∈ ns, y ≤ ns.foldl max a) ∧ (ns.foldl max a = a ∨ ns.foldl max a ∈ ns)
  | [], a => ⟨Int.le_refl _, by simp, .inl rfl⟩
  | n :: ns, a => by
    obtain ⟨h1, h2, h3⟩ := foldl_max_spec ns (max a n)
    refine ⟨by simp only [List.foldl_cons]; omega, fun y hy => ?_, ?_⟩
    · simp only [List.foldl_cons]
      rcases List.mem_cons.mp hy with rfl | hy
      · omega
      · exact h2 y hy
    · simp only [List.foldl_cons]
      rcases h3 with h3 | h3
      · rw [h3]
        by_cases c : n ≤ a
        · left; omega
        · right; rw [show max a n = n by omega]; exact List.mem_cons_self
      · right; exact List.mem_cons_of_mem _ h3
theorem foldl_min_spec : ∀ (ns : List Int) (a : Int), (ns.foldl min a ≤ a) ∧ (∀ y ∈ ns, ns.foldl min a ≤ y) ∧ (ns.foldl min a = a ∨ ns.foldl min a ∈ ns)
  | [], a => ⟨Int.le_refl _, by simp, .inl rfl⟩
  | n :: ns, a => by
    obtain ⟨h1, h2, h3⟩ := foldl_min_spec ns (min a n)
    refine ⟨by simp only [List.foldl_cons]; omega, fun y hy => ?_, ?_⟩
    · simp only [List.foldl_cons]
      rcases List.mem_cons.mp hy with rfl | hy
      · omega
      · exact h2 y hy
    · simp only [List.foldl_cons]
      rcases h3 with h3 | h3
      · rw [h3]
        by_cases c : a ≤ n
        · left; omega
        · right; rw [show min a n = n by omega]; exact List.mem_cons_self
      · right; exact List.mem_cons_of_mem _ h3
theorem maxI_mem {ns : List Int} (h : 0 < ns.length) : maxI ns ∈ ns := by
  cases ns with
  | nil => simp at h
  | cons n ns =>
    obtain ⟨_, _, h3⟩ := foldl_max_spec ns n
    rcases h3 with h3 | h3
    · show ns.foldl max n ∈ _; rw [h3]; exact List.mem_cons_self
    · exact List.mem_cons_of_mem _ h3
theorem maxI_le {ns : List Int} {y : Int} (h : y ∈ ns) : y ≤ maxI ns := by
  cases ns with
  | nil => cases h
  | cons n ns =>
    obtain ⟨h1, h2, _⟩ := foldl_max_spec ns n
    rcases List.mem_cons.mp h with rfl | h
    · exact h1
    · exact h2 y h
theorem minI_mem {ns : List Int} (h : 0 < ns.length) : minI ns ∈ ns := by
  cases ns with
  | nil => simp at h
  | cons n ns =>
    obtain ⟨_, _, h3⟩ := foldl_min_spec ns n
    rcases h3 with h3 | h3
    · show ns.foldl min n ∈ _; rw [h3]; exact List.mem_cons_self
    · exact List.mem_cons_of_mem _ h3
theorem minI_le {ns : List Int} {y : Int} (h : y ∈ ns) : minI ns ≤ y := by
  cases ns with
  | nil => cases h
  | cons n ns =>
    obtain ⟨h1, h2, _⟩ := foldl_min_spec ns n
    rcases List.mem_cons.mp h with rfl | h
    · exact h1
    · exact h2 y h
def dMax : List D → Option S
  | [.int i, .int j] => some (.v (.int (if j > i then j else i)))
  | [.lst ds] => match intsD ds with
    | some (n :: ns) => some (.v (.int (maxI (n :: ns))))
    | _ => none
  | _ => none
def dMin : List D → Option S
  | [.int i, .int j] => some (.v (.int (if j < i then j else i)))
  | [.lst ds] => match intsD ds with
    | some (n :: ns) => some (.v (.int (minI (n :: ns))))
    | _ => none
  | _ => none
theorem c_max (A : At g X) : CR X (.builtin "max") dMax := by
  refine ⟨_, CallR.or (call_max2 A.calm) (cr_max A.calm), fun xs H Q ds s p h q => ?_⟩
  match ds, h with
  | [.int i, .int j], h =>
    obtain ⟨x, y, rfl, r, r'⟩ := pair2 p
    cases h
    cases r.int
    cases r'.int
    exact .inl ⟨i, j, rfl, q _ H (Same.refl H) rfl⟩
  | [.lst ds], h =>
    obtain ⟨x, rfl, r⟩ := pair1 p
    obtain ⟨a, vs, rfl, s1, i1⟩ := r.lst
    simp only [dMax] at h
    cases hb : intsD ds with
    | none => rw [hb] at h; cases h
    | some bs =>
      cases bs with
      | nil => rw [hb] at h; cases h
      | cons n ns =>
        rw [hb] at h
        cases h
        refine .inr ⟨a, n :: ns, rfl, by rw [← immL_ints i1 hb]; exact s1, by simp, fun m hm hle => ?_⟩
        have e : m = maxI (n :: ns) := Int.le_antisymm (maxI_le hm) (hle _ (maxI_mem (by simp)))
        subst e
        exact q _ H (Same.refl H) rfl
theorem c_min (A : At g X) : CR X (.builtin "min") dMin := by
  refine ⟨_, CallR.or (call_min2 A.calm) (cr_min A.calm), fun xs H Q ds s p h q => ?_⟩
  match ds, h with
  | [.int i, .int j], h =>
    obtain ⟨x, y, rfl, r, r'⟩ := pair2 p
    cases h
    cases r.int
    cases r'.int
    exact .inl ⟨i, j, rfl, q _ H (Same.refl H) rfl⟩
  | [.lst ds], h =>
    obtain ⟨x, rfl, r⟩ := pair1 p
    obtain ⟨a, vs, rfl, s1, i1⟩ := r.lst
    simp only [dMin] at h
    cases hb : intsD ds with
    | none => rw [hb] at h; cases h
    | some bs =>
      cases bs with
      | nil => rw [hb] at h; cases h
      | cons n ns =>
        rw [hb] at h
        cases h
        refine .inr ⟨a, n :: ns, rfl, by rw [← immL_ints i1 hb]; exact s1, by simp, fun m hm hle => ?_⟩
        have e : m = minI (n :: ns) := Int.le_antisymm (hle _ (minI_mem (by simp))) (minI_le hm)
        subst e
        exact q _ H (Same.refl H) rfl
/-! ### isinstance -/
inductive Ty where
  | int | bool | str | tuple | list | dict
def Ty.name : Ty → String
  | .int => "int" | .bool => "bool" | .str => "str" | .tuple => "tuple" | .list => "list" | .dict => "dict"
def isT : Ty → D → Option Bool
  | .dict, .dic false _ => some true
  | _, .dic true _ => none
  | .int, .int _ => some true
  | .int, .bl _ => some true
  | .bool, .bl _ => some true
  | .str, .str _ => some true
  | .tuple, .tup _ => some true
  | .tuple, .ktp _ => some true
  | .list, .lst _ => some true
  | .list, .scr _ => some true
  | _, _ => some false
def tyN : D → String
  | .non => "NoneType" | .bl _ => "bool" | .int _ => "int" | .str _ => "str" | .tup _ => "tuple" | .lst _ => "list" | .dic _ _ => "dict" | .scr _ => "list" | .ktp _ => "tuple"
theorem kit_tab : ∀ (t : Ty) (d : D) (k : Bool), isT t d = some k → kitB (tyN d) t.name = some k := by
  intro t d k h
  cases d with
  | dic b kvs => cases b <;> cases t <;> (cases h <;> (simp only [tyN, Ty.name]; decide +kernel))
  | _ => cases t <;> (cases h; simp only [tyN, Ty.name]; decide +kernel)
theorem tyx_of {K : PySem.W.Frag} {H : Hp} {t : Ty} {d : D} {x : V} {k : Bool} (r : Rd K H d x) (h : isT t d = some k) : TyX K H x (.type (tyN d)) := by
  cases d with
  | non => cases r.non; exact .base .non
  | bl b => cases r.bl; exact .base (.bl b)
  | int b => cases r.int; exact .base (.int b)
  | str b => cases r.str; exact .base (.str b)
  | tup ds =>
    obtain ⟨a, vs, rfl, s1, i1⟩ := r.tup
    exact .base (.tup s1)
  | ktp ds =>
    obtain ⟨a, vs, rfl, s1, i1⟩ := r.ktp
    obtain ⟨o, _, _, s1, _, s2, _⟩ := s1
    exact .kTuple s1 s2
  | lst ds =>
    obtain ⟨a, vs, rfl, s1, i1⟩ := r.lstR
    rcases s1 with s1 | ⟨o, s1⟩
    · exact .base (.lst s1)
    · exact .base (.frz s1)
  | scr ns =>
    obtain ⟨a, rfl, s1⟩ := r.scr
    rcases s1 with (s1 | ⟨o, s1⟩) | ⟨o, _, _, s1, s2, _⟩
    · exact .base (.lst s1)
    · exact .base (.frz s1)
    · exact .kList s1 s2
  | dic b kvs =>
    cases b with
    | true => cases t <;> cases h
    | false =>
      rcases r with ⟨a, o, kws, rfl, h1, h2⟩ | ⟨a, rfl, kws, h1, h2⟩
      · exact .fDict h1
      · exact .base (.dK h1)
def tIsi (f : D → Option Bool) (fa : Ex) : Tx := fun ρ => fa ρ >>= fun p => pk p.2 p.1 >>= fun d => liftO (f d) >>= fun k => .ok (k, p.2)
theorem read_isi {X : Cx} {W : WX} {β : Type} {G : β → Hp → Prop} {f : D → Option Bool} {fa : Ex} {σ : L2.St} {H : Hp} {Q : VK} {ρ : Rho} {k : Bool × Rho → Out β} {r : V → Hp → VK → Prop}
    (h : ∀ (x : V) (H : Hp) (Q : VK) (d : D) (b : Bool), Rd X.K H d x → f d = some b → Q (.bl b) H → r x H Q)
    (R : ER X.K g ρ σ H) (t : Pst X.K g σ H W G (tIsi f fa ρ >>= k)) (hk : ∀ b ρ2 H2, ER X.K g ρ2 σ H2 → Ext H H2 → Pst X.K g σ H2 W G (k (b, ρ2)) → Q (.bl b) H2) : tN X.K g fa W σ H fun x H1 => r x H1 Q := by
  have bb : tIsi f fa ρ >>= k = (fa ρ >>= fun p => pk p.2 p.1 >>= fun d => liftO (f d) >>= fun b => k (b, p.2)) := by
    unfold tIsi
    cases fa ρ with
    | stuck => rfl
    | exc c ρ1 => rfl
    | ok p =>
      simp only [bind_ok]
      cases pk p.2 p.1 with
      | stuck => rfl
      | exc c ρ1 => rfl
      | ok d =>
        simp only [bind_ok]
        cases f d <;> rfl
  rw [bb] at t
  refine tN_step R t fun s1 ρ1 x H1 R1 E1 n1 q1 => ?_
  obtain ⟨d, h1, q3⟩ := q1.pk
  obtain ⟨b, ho, q5⟩ := q3.opt
  exact h x H1 Q d b (pk_rd n1 R1 (Ext.refl _) h1) ho (hk b ρ1 H1 R1 E1 q5)
/-- isinstance(a, T), T a built-in type -/
theorem e_isi (t : Ty) {T : Str} {p p2 : Pos} {fa : Ex} (hT : bootBuiltins T = some (.type t.name)) (hm : g.mg "isinstance" = none) (hmT : g.mg T = none) (ha : EOk g a fa) (hg : Glo g "isinstance" := by rfl) (hgT : Glo g T := by rfl)
    (hn : T ≠ "__name__" := by decide) (hdb : (T == ("__debug__" : Str)) = false := by decide)
    (h1 : ∀ env, starEach (a :: [.Name T p2]) env = (false, eval a env) :: starEach [.Name T p2] env := by intro _; rfl) (h2 : ∀ env, starEach (.Name T p2 :: []) env = (false, eval (.Name T p2) env) :: starEach [] env := by intro _; rfl)
    (hpl : ∀ env, (backTo pos (starEach [.Name T p2] env)).any (·.1) = false := by intro _; rfl) : EOk g (.Call (.Name "isinstance" p) [a, .Name T p2] [] pos) (bE (tIsi (isT t) fa)) := fun X W A tk => by
  refine PE.imp (pe_callB call_isi (hg.gl A) (by rw [A.mg]; exact hm) (by decide +kernel) (pa_cons (ha.n A tk) (pa_cons (pe_bltn (v := .ty t.name) (hgT.gl A) (by rw [A.mg]; exact hmT) hT rfl hn hdb) pa_nil (h2 _)) (h1 _)) (by decide) (by decide) (h1 _) (hpl _)) fun σ H Q ⟨ρ, R, q⟩ => ?_
  refine read_isi (r := fun x H1 Q => rIsi X.K [x, .ty t.name] H1 Q) (fun x H Q d b r h q => ?_) R q fun b ρ2 H2 R2 E2 q => q H2 (Ext.refl _) R2 _ rfl
  exact ⟨x, _, _, _, b, rfl, .ty _, tyx_of r h, kit_ty (kit_tab t d b h), q⟩
theorem t_isi (t : Ty) {T : Str} {p p2 : Pos} {fa : Ex} (hT : bootBuiltins T = some (.type t.name)) (hm : g.mg "isinstance" = none) (hmT : g.mg T = none) (ha : EOk g a fa) (hg : Glo g "isinstance" := by rfl) (hgT : Glo g T := by rfl)
    (hn : T ≠ "__name__" := by decide) (hdb : (T == ("__debug__" : Str)) = false := by decide)
    (h1 : ∀ env, starEach (a :: [.Name T p2]) env = (false, eval a env) :: starEach [.Name T p2] env := by intro _; rfl) (h2 : ∀ env, starEach (.Name T p2 :: []) env = (false, eval (.Name T p2) env) :: starEach [] env := by intro _; rfl)
    (hpl : ∀ env, (backTo pos (starEach [.Name T p2] env)).any (·.1) = false := by intro _; rfl) : TOk g (.Call (.Name "isinstance" p) [a, .Name T p2] [] pos) (tIsi (isT t) fa) := fun X W A tk => by
  refine PT.imp (pt_val (pe_callB call_isi (hg.gl A) (by rw [A.mg]; exact hm) (by decide +kernel) (pa_cons (ha.n A tk) (pa_cons (pe_bltn (v := .ty t.name) (hgT.gl A) (by rw [A.mg]; exact hmT) hT rfl hn hdb) pa_nil (h2 _)) (h1 _)) (by decide) (by decide) (h1 _) (hpl _))) fun σ H Q ⟨ρ, R, q⟩ => ?_
  refine read_isi (Q := fun v H' => ∃ c, v = .bl c ∧ Q c H') (G := fun p H' => ER X.K g p.2 σ H' → Q p.1 H') (k := fun p => .ok p) (r := fun x H1 Q => rIsi X.K [x, .ty t.name] H1 Q) (fun x H Q d b r h q => ?_) R (by rw [bind_self]; exact q) fun b ρ2 H2 R2 E2 q => ⟨b, rfl, q H2 (Ext.refl _) R2⟩
  exact ⟨x, _, _, _, b, rfl, .ty _, tyx_of r h, kit_ty (kit_tab t d b h), q⟩
end
end PL

namespace PL
open PySem PySem.Spec PyProof.Rows L2
/-! ### statements -/
inductive Fl where
  | next (ρ : Rho) | ret (s : S) (ρ : Rho) | brk (ρ : Rho) | cnt (ρ : Rho)
abbrev Sx := Rho → Out Fl
section
variable {g : Cf} {X : Cx} {e a b c : Expr} {es : List Expr} {pos : Pos} {K : PySem.W.Frag} {W : WX}
/-- a value that is bound to a name, or handed back -/
def BR (K : PySem.W.Frag) (g : Cf) (ρ : Rho) (σ : L2.St) (H : Hp) : S → V → Prop
  | .v d, x => Imm K H d x
  | .o d, x => ∃ a, x = .ref a ∧ OwnAt K H a d ∧ ¬ Own ρ σ a ∧ g.H0 a = none
  | .b _, _ => False
def bd (l : List Nat) (s : S) (ρ : Rho) : Out (S × Rho) := match s with
  | .v d => .ok (.v d, ρ)
  | .o d => .ok (.o d, ρ)
  | .b i => fz l (.b i) ρ >>= fun p => .ok (.v p.1, p.2)
def eBd (l : List Nat) (f : Ex) : Ex := fun ρ => f ρ >>= fun p => bd l p.1 p.2
def tBd (K : PySem.W.Frag) (g : Cf) (f : Ex) (W : WX) : TE := fun σ H Q => ∃ ρ, ER K g ρ σ H ∧ Pst K g σ H W (fun p H' => ER K g p.2 σ H' → ∀ x, BR K g p.2 σ H' p.1 x → Q x H') (eBd g.ios f ρ)
theorem EOk.bd {f : Ex} (h : EOk g e f) (A : At g X) (tk : Takes X W) : PE X e (tBd X.K g f W) := by
  refine ⟨fun pins s σ H Q I ⟨ρ, R, q⟩ => ?_⟩
  unfold eBd at q
  cases hf : f ρ with
  | stuck => rw [hf] at q; exact q.elim
  | exc c ρ' =>
    rw [hf] at q
    exact (h X W A tk).run pins s σ H Q I ⟨ρ, R, by rw [hf]; exact q⟩
  | ok p =>
    obtain ⟨s', ρ'⟩ := p
    rw [hf] at q
    have q : Pst X.K g σ H W (fun p H' => ER X.K g p.2 σ H' → ∀ x, BR X.K g p.2 σ H' p.1 x → Q x H') (PL.bd g.ios s' ρ') := q
    refine thn ((h X W A tk).run pins s σ H (fun x H' => ER X.K g ρ' σ H' ∧ Ext H H' ∧ SR X.K g ρ' σ H' s' x) I ⟨ρ, R, by rw [hf]; exact fun H' b a x c => ⟨a, b, c⟩⟩) fun u s1 ⟨x, H1, I1, r1, R1, e1, sr⟩ => ?_
    cases s' with
    | v d => exact ⟨x, H1, I1, r1, q H1 e1 R1 x sr⟩
    | o d => exact ⟨x, H1, I1, r1, q H1 e1 R1 x sr⟩
    | b i =>
      unfold PL.bd at q
      obtain ⟨p, hp, q2⟩ := q.fz
      obtain ⟨H2, I2, R2, E2, im⟩ := fz_ok I1 R1 (z := .b i) (x := x) sr.1 (d := p.1) (ρ' := p.2) hp
      exact ⟨x, H2, I2, r1, q2 H2 (e1.trans E2) R2 x im⟩
/-- what is wanted behind statements -/
def PsS (K : PySem.W.Frag) (g : Cf) (H : Hp) (W : WX) (D : Ends) : Out Fl → Prop
  | .ok (.next ρ') => ∀ σ' H', Ext H H' → ER K g ρ' σ' H' → D.nx σ' H'
  | .ok (.ret s ρ') => ∀ σ' H' x, Ext H H' → ER K g ρ' σ' H' → BR K { g with io := g.io } [] [] H' s x → D.rt x H'
  | .ok (.brk ρ') => ∀ σ' H', Ext H H' → ER K g ρ' σ' H' → D.bk σ' H'
  | .ok (.cnt ρ') => ∀ σ' H', Ext H H' → ER K g ρ' σ' H' → D.ct σ' H'
  | .exc c ρ' => ∀ cls σ' H', Ext H H' → ER K g ρ' σ' H' → g.mg c = some cls → W cls none σ' H'
  | .stuck => False
def tS (K : PySem.W.Frag) (g : Cf) (f : Sx) (W : WX) : TS := fun D σ H => ∃ ρ, ER K g ρ σ H ∧ PsS K g H W D (f ρ)
/-- the context of a statement -/
structure AtS (g : Cf) (X : Cx) : Prop extends At g X where
  own : PassesOwn (model X.prog X.w) X.A X.env X.xe
  stk : X.stack = X.env :: X.outer
  fr : X.env.frame = some X.env.locals
def SOk (g : Cf) (st : Stmt) (f : Sx) : Prop := ∀ (X : Cx) (W : WX), AtS g X → Takes X W → PS X st (tS X.K g f W)
def SsOk (g : Cf) (st : List Stmt) (f : Sx) : Prop := ∀ (X : Cx) (W : WX), AtS g X → Takes X W → PSs X st (tS X.K g f W)
theorem PsS.ext {H H1 : Hp} {D : Ends} (e : Ext H H1) : ∀ {r : Out Fl}, PsS K g H W D r → PsS K g H1 W D r
  | .ok (.next _), q => fun σ' H' x => q σ' H' (e.trans x)
  | .ok (.ret _ _), q => fun σ' H' x y => q σ' H' x (e.trans y)
  | .ok (.brk _), q => fun σ' H' x => q σ' H' (e.trans x)
  | .ok (.cnt _), q => fun σ' H' x => q σ' H' (e.trans x)
  | .exc _ _, q => fun cls σ' H' x => q cls σ' H' (e.trans x)
  | .stuck, q => q
/-- from a statement's wish to the wish of its first reckoning, of any kind -/
theorem Ps_step {α : Type} {H : Hp} {σ : L2.St} {D : Ends} {G : α → Hp → Prop} {r : Out α} {k : α → Out Fl} (q : PsS K g H W D (r >>= k)) (h : ∀ p, r = .ok p → PsS K g H W D (k p) → ∀ H1, Ext H H1 → G p H1) : Pst K g σ H W G r := by
  cases r with
  | stuck => exact q.elim
  | exc c ρ1 => exact fun cls H' R x m => q cls σ H' x R m
  | ok p => exact fun H1 E1 => h p rfl q H1 E1
theorem PsS.opt {α : Type} {H : Hp} {D : Ends} {o : Option α} {k : α → Out Fl} (q : PsS K g H W D (liftO o >>= k)) : ∃ a, o = some a ∧ PsS K g H W D (k a) := by
  cases o with
  | none => exact q.elim
  | some a => exact ⟨a, rfl, q⟩
theorem PsS.pk {H : Hp} {D : Ends} {ρ : Rho} {s : S} {k : PL.D → Out Fl} (q : PsS K g H W D (PL.pk ρ s >>= k)) : ∃ d, PL.pk ρ s = .ok d ∧ PsS K g H W D (k d) := by
  cases h : PL.pk ρ s with
  | stuck => rw [h] at q; exact q.elim
  | exc c ρ' => exact (pk_noexc h).elim
  | ok d => rw [h] at q; exact ⟨d, rfl, q⟩
/-! ### blocks -/
def sSeq (f h : Sx) : Sx := fun ρ => f ρ >>= fun r => match r with
  | .next ρ' => h ρ'
  | .ret s ρ' => .ok (.ret s ρ')
  | .brk ρ' => .ok (.brk ρ')
  | .cnt ρ' => .ok (.cnt ρ')
def sNil : Sx := fun ρ => .ok (.next ρ)
variable {st : Stmt} {rest : List Stmt} {f h : Sx}
theorem ss_nil : SsOk g [] sNil := fun X W A tk => PSs.imp pss_nil fun D σ H ⟨ρ, R, q⟩ => q σ H (Ext.refl H) R
theorem ss_one (h1 : SOk g st f) : SsOk g [st] f := fun X W A tk => pss_one (h1 X W A tk)
theorem ss_cons (h1 : SOk g st f) (h2 : SsOk g rest h) : SsOk g (st :: rest) (sSeq f h) := fun X W A tk => by
  refine PSs.imp (pss_cons (h1 X W A tk) (h2 X W A tk)) fun D σ H ⟨ρ, R, q⟩ => ⟨ρ, R, ?_⟩
  unfold sSeq at q
  cases hf : f ρ with
  | stuck => rw [hf] at q; exact q.elim
  | exc c ρ1 => rw [hf] at q; exact q
  | ok p =>
    rw [hf] at q
    cases p with
    | next ρ' => exact fun σ' H' x R' => ⟨ρ', R', PsS.ext x q⟩
    | ret s ρ' => exact q
    | brk ρ' => exact q
    | cnt ρ' => exact q
theorem s_pass : SOk g (.Pass pos) sNil := fun X W A tk => PS.imp ps_pass fun D σ H ⟨ρ, R, q⟩ => q σ H (Ext.refl H) R
def sBrk : Sx := fun ρ => .ok (.brk ρ)
def sCnt : Sx := fun ρ => .ok (.cnt ρ)
theorem s_brk : SOk g (.Break pos) sBrk := fun X W A tk => PS.imp ps_break fun D σ H ⟨ρ, R, q⟩ => q σ H (Ext.refl H) R
theorem s_cnt : SOk g (.Continue pos) sCnt := fun X W A tk => PS.imp ps_continue fun D σ H ⟨ρ, R, q⟩ => q σ H (Ext.refl H) R
/-! ### expressions, returns -/
def sEx (f : Ex) : Sx := fun ρ => f ρ >>= fun p => .ok (.next p.2)
theorem s_ex {f : Ex} (h : EOk g e f) (hs : ∀ env, swapsWith e none pos.line env = pure false := by intro _; rfl) : SOk g (.Expr e pos) (sEx f) := fun X W A tk => by
  refine PS.imp (ps_expr (h.n A.toAt tk) (hs _)) fun D σ H ⟨ρ, R, q⟩ => ⟨ρ, R, Ps_step q fun p _ q1 H1 E1 R1 x n => q1 σ H1 E1 R1⟩
/-- what is handed back: an own object of the def is moved -/
def mv (l : List Nat) (s : S) (ρ : Rho) : Out (S × Rho) := match s with
  | .v d => .ok (.v d, ρ)
  | .o d => .ok (.o d, ρ)
  | .b i => if i ∈ l then .stuck else match ρ[i]? with
    | some (some (.o d)) => .ok (.o d, ρ)
    | some (some (.v d)) => .ok (.v d, ρ)
    | _ => .stuck
def sRet (l : List Nat) (f : Ex) : Sx := fun ρ => f ρ >>= fun p => mv l p.1 p.2 >>= fun r => .ok (.ret r.1 r.2)
theorem mv_ok {σ : L2.St} {H : Hp} {ρ ρ' : Rho} {s z : S} {x : V} (R : ER K g ρ σ H) (n : SR K g ρ σ H s x) (h : mv g.ios s ρ = .ok (z, ρ')) : ρ' = ρ ∧ BR K g [] [] H z x := by
  have no : ∀ a, ¬ Own ([] : Rho) ([] : L2.St) a := fun a ⟨i, d, h1, _⟩ => by simp at h1
  cases s with
  | v d => cases h; exact ⟨rfl, n⟩
  | o d =>
    cases h
    obtain ⟨a, h1, h2, h3, h4⟩ := n
    exact ⟨rfl, a, h1, h2, no a, h4⟩
  | b i =>
    obtain ⟨n1, d, n2⟩ := n
    simp only [mv] at h
    split at h
    · cases h
    · rename_i hio
      rw [n2] at h
      cases h
      obtain ⟨a, h1, h2⟩ := R.own i d n2
      rw [n1] at h1; cases h1
      refine ⟨rfl, a, rfl, h2, no a, (R.new i d a n2 n1).elim id fun z => (hio (List.mem_map.mpr ⟨_, z, rfl⟩)).elim⟩
theorem mv_noexc {l : List Nat} {ρ ρ' : Rho} {s : S} {c : Str} (h : mv l s ρ = .exc c ρ') : False := by
  cases s with
  | v d => cases h
  | o d => cases h
  | b i =>
    simp only [mv] at h
    split at h
    · cases h
    · split at h <;> cases h
theorem s_ret {f : Ex} (h : EOk g e f) : SOk g (.Return (some e) pos) (sRet g.ios f) := fun X W A tk => by
  refine PS.imp (ps_ret (h X W A.toAt tk)) fun D σ H ⟨ρ, R, q⟩ => ⟨ρ, R, Ps_step q fun p _ q1 H1 E1 R1 x n => ?_⟩
  cases hm : mv g.ios p.1 p.2 with
  | stuck => rw [hm] at q1; exact q1.elim
  | exc c ρ' => exact (mv_noexc hm).elim
  | ok r =>
    rw [hm] at q1
    obtain ⟨h1, h2⟩ := mv_ok R1 n (z := r.1) (ρ' := r.2) hm
    exact q1 σ H1 x E1 (by rw [h1]; exact R1) h2
def sRetN : Sx := fun ρ => .ok (.ret (.v .non) ρ)
theorem s_retN : SOk g (.Return none pos) sRetN := fun X W A tk => PS.imp ps_retN fun D σ H ⟨ρ, R, q⟩ => q σ H .non (Ext.refl H) R rfl
/-! ### names bound -/
theorem ER.set {σ : L2.St} {H : Hp} {ρ : Rho} {i : Nat} {s : S} {x : V} (R : ER K g ρ σ H) (b : BR K g ρ σ H s x) (hio : i ∉ g.ios) : ER K g (ρ.set i (some s)) (σ.set i (some x)) H := by
  have hl := R.len
  rcases Nat.lt_or_ge i ρ.length with hlt | hge
  · have hσ : i < σ.length := hl ▸ hlt
    have gρ : ∀ j, (ρ.set i (some s))[j]? = if j = i then some (some s) else ρ[j]? := fun j => by
      by_cases hj : j = i
      · subst hj; rw [if_pos rfl, List.getElem?_set_self hlt]
      · rw [if_neg hj, List.getElem?_set_ne (Ne.symm hj)]
    have gσ : ∀ j, (σ.set i (some x))[j]? = if j = i then some (some x) else σ[j]? := fun j => by
      by_cases hj : j = i
      · subst hj; rw [if_pos rfl, List.getElem?_set_self hσ]
      · rw [if_neg hj, List.getElem?_set_ne (Ne.symm hj)]
    have isO : ∀ {d}, s = .o d → ∃ a, x = .ref a ∧ OwnAt K H a d ∧ ¬ Own ρ σ a ∧ g.H0 a = none := fun {d} e => by subst e; exact b
    refine ⟨by rw [List.length_set, List.length_set]; exact hl, fun j d h => ?_, fun j d h => ?_, fun j m h => ?_, fun j m d d' a h1 h2 h3 h4 => ?_, R.old, fun j d a h1 h2 => ?_, fun p hp => ?_⟩
    · rw [gρ] at h
      rw [gσ]
      by_cases hj : j = i
      · rw [if_pos hj] at h ⊢
        cases h
        exact ⟨x, rfl, b⟩
      · rw [if_neg hj] at h ⊢
        exact R.val j d h
    · rw [gρ] at h
      rw [gσ]
      by_cases hj : j = i
      · rw [if_pos hj] at h ⊢
        cases h
        obtain ⟨a, rfl, h2, _⟩ := isO rfl
        exact ⟨a, rfl, h2⟩
      · rw [if_neg hj] at h ⊢
        exact R.own j d h
    · rw [gρ] at h
      by_cases hj : j = i
      · rw [if_pos hj] at h
        cases h
        exact b
      · rw [if_neg hj] at h
        exact R.bor j m h
    · rw [gρ] at h1 h2
      rw [gσ] at h3 h4
      by_cases hj : j = i
      · by_cases hm : m = i
        · rw [hj, hm]
        · rw [if_pos hj] at h1 h3
          rw [if_neg hm] at h2 h4
          cases h1
          obtain ⟨a', e, _, h7, _⟩ := isO rfl
          rw [e] at h3
          cases h3
          exact (h7 ⟨m, d', h2, h4⟩).elim
      · by_cases hm : m = i
        · rw [if_neg hj] at h1 h3
          rw [if_pos hm] at h2 h4
          cases h2
          obtain ⟨a', e, _, h7, _⟩ := isO rfl
          rw [e] at h4
          cases h4
          exact (h7 ⟨j, d, h1, h3⟩).elim
        · rw [if_neg hj] at h1 h3
          rw [if_neg hm] at h2 h4
          exact R.sep j m d d' a h1 h2 h3 h4
    · rw [gρ] at h1
      rw [gσ] at h2
      by_cases hj : j = i
      · rw [if_pos hj] at h1 h2
        cases h1
        obtain ⟨a', e, _, _, h8⟩ := isO rfl
        rw [e] at h2
        cases h2
        exact .inl h8
      · rw [if_neg hj] at h1 h2
        exact R.new j d a h1 h2
    · obtain ⟨h1, d, h2⟩ := R.io p hp
      have hj : p.1 ≠ i := fun z => hio (List.mem_map.mpr ⟨p, hp, z⟩)
      rw [gσ, if_neg hj]
      refine ⟨h1, d, ?_⟩
      rw [gρ, if_neg hj]
      exact h2
  · rw [List.set_eq_of_length_le hge, List.set_eq_of_length_le (hl ▸ hge)]
    exact R
def sSet (l : List Nat) (i : Nat) (f : Ex) : Sx := fun ρ => eBd l f ρ >>= fun p => if i ∈ l then .stuck else .ok (.next (p.2.set i (some p.1)))
/-- the name stands in slot i -/
structure Slot (g : Cf) (x : Str) (i : Nat) : Prop where
  nd : g.N.Nodup
  ix : g.N[i]? = some x
  loc : L2.Loc g.sc x
  fn : g.fn x = true ∨ g.sc.names.lookup x = some .local
theorem s_set {i : Nat} {x : Str} {f : Ex} {pos' : Pos} (sl : Slot g x i) (h : EOk g e f) (hs : ∀ env, env.scope = g.sc → swapsWith e (some (.Name x pos')) pos.line env = pure false := by intro _ _; rfl) : SOk g (.Assign [.Name x pos'] e pos) (sSet g.ios i f) := fun X W A tk => by
  refine PS.imp (ps_set (i := i) (by rw [A.N]; exact sl.nd) (by rw [A.N]; exact sl.ix) (by unfold L2.Loc; rw [A.sc]; exact sl.loc) (h.bd A.toAt tk) (hs _ A.sc) (by rw [A.sc]; exact sl.fn.imp (A.fn x) id)) fun D σ H ⟨ρ, R, q⟩ => ⟨ρ, R, Ps_step q fun p _ q1 H1 E1 R1 x b => ?_⟩
  split at q1
  · exact q1.elim
  · rename_i hio
    exact q1 _ H1 E1 (R1.set b hio)
/-! ### targets -/
abbrev Gx := D → Rho → Option Rho
abbrev Gxs := List D → Rho → Option Rho
/-- only the slots ts differ -/
def Chs (ts : List Nat) (σ σ' : L2.St) : Prop := σ'.length = σ.length ∧ ∀ j : Nat, j ∉ ts → σ'[j]? = σ[j]?
theorem Chs.refl (ts : List Nat) (σ : L2.St) : Chs ts σ σ := ⟨rfl, fun _ _ => rfl⟩
theorem Chs.trans {ts us : List Nat} {σ σ' σ'' : L2.St} (a : Chs ts σ σ') (b : Chs us σ' σ'') : Chs (ts ++ us) σ σ'' :=
  ⟨b.1.trans a.1, fun j hj => (b.2 j fun z => hj (List.mem_append_right _ z)).trans (a.2 j fun z => hj (List.mem_append_left _ z))⟩
def PsG (K : PySem.W.Frag) (g : Cf) (ts : List Nat) (σ : L2.St) (H : Hp) (Q : L2.St → Hp → Prop) : Option Rho → Prop
  | some ρ' => ∀ σ' H', Chs ts σ σ' → Ext H H' → ER K g ρ' σ' H' → Q σ' H'
  | _ => False
def tGx (K : PySem.W.Frag) (g : Cf) (ts : List Nat) (f : Gx) : TG := fun v σ H Q => ∃ ρ d, ER K g ρ σ H ∧ Imm K H d v ∧ PsG K g ts σ H Q (f d ρ)
def tGxs (K : PySem.W.Frag) (g : Cf) (ts : List Nat) (f : Gxs) : TGs := fun vs σ H Q => ∃ ρ ds, ER K g ρ σ H ∧ ImmL K H ds vs ∧ PsG K g ts σ H Q (f ds ρ)
def GOk (g : Cf) (e : Expr) (ts : List Nat) (f : Gx) : Prop := ∀ (X : Cx), At g X → PG X e (tGx X.K g ts f)
def GsOk (g : Cf) (es : List Expr) (ts : List Nat) (f : Gxs) : Prop := ∀ (X : Cx), At g X → PGs X es (tGxs X.K g ts f)
theorem PG.imp {X : Cx} {e : Expr} {t t' : TG} (h : PG X e t) (hi : ∀ v σ H Q, t' v σ H Q → t v σ H Q) : PG X e t' := ⟨fun pins s σ H v u Q I r q => h.run pins s σ H v u Q I r (hi v σ H Q q)⟩
theorem PGs.imp {X : Cx} {e : List Expr} {t t' : TGs} (h : PGs X e t) (hi : ∀ v σ H Q, t' v σ H Q → t v σ H Q) : PGs X e t' := ⟨fun pins s σ H v u Q I r q => h.run pins s σ H v u Q I r (hi v σ H Q q)⟩
theorem PG.or {X : Cx} {e : Expr} {t t' : TG} (h : PG X e t) (h' : PG X e t') : PG X e (fun v σ H Q => t v σ H Q ∨ t' v σ H Q) := ⟨fun pins s σ H v u Q I r q => by
  rcases q with q | q
  · exact h.run pins s σ H v u Q I r q
  · exact h'.run pins s σ H v u Q I r q⟩
def gNm (l : List Nat) (i : Nat) : Gx := fun d ρ => if i ∈ l then none else some (ρ.set i (some (.v d)))
theorem g_nm {i : Nat} {x : Str} (sl : Slot g x i) : GOk g (.Name x pos) [i] (gNm g.ios i) := fun X A => by
  refine PG.imp (pg_name (i := i) (by rw [A.N]; exact sl.nd) (by rw [A.N]; exact sl.ix) (by unfold L2.Loc; rw [A.sc]; exact sl.loc) (by rw [A.sc]; exact sl.fn.imp (A.fn x) id)) fun v σ H Q ⟨ρ, d, R, im, q⟩ => ?_
  unfold gNm at q
  split at q
  · exact q.elim
  · rename_i hio
    exact q _ H ⟨by rw [List.length_set], fun j hj => List.getElem?_set_ne (fun z => hj (by rw [← z]; exact List.mem_singleton_self _))⟩ (Ext.refl H) (R.set (s := .v d) im hio)
def gsNil : Gxs := fun ds ρ => match ds with
  | [] => some ρ
  | _ => none
def gsCons (f : Gx) (r : Gxs) : Gxs := fun ds ρ => match ds with
  | d :: ds => (f d ρ).bind fun ρ' => r ds ρ'
  | [] => none
theorem gs_nil : GsOk g [] [] gsNil := fun X A => PGs.imp pgs_nil fun vs σ H Q ⟨ρ, ds, R, im, q⟩ => by
  cases ds with
  | nil => exact ⟨im, q σ H (Chs.refl _ _) (Ext.refl H) R⟩
  | cons d ds => exact q.elim
theorem gs_cons {f : Gx} {r : Gxs} {ts us : List Nat} (h : GOk g e ts f) (hr : GsOk g es us r) (hs : ∀ env, (assignEach (e :: es) env).map (·.2) = assign e env :: (assignEach es env).map (·.2) := by intro _; rfl) : GsOk g (e :: es) (ts ++ us) (gsCons f r) := fun X A => by
  refine PGs.imp (pgs_cons (h X A) (hr X A) (hs _)) fun vs σ H Q ⟨ρ, ds, R, im, q⟩ => ?_
  cases ds with
  | nil => exact q.elim
  | cons d ds =>
    obtain ⟨v, r', e, im1, im2⟩ := im
    refine ⟨v, r', e, ρ, d, R, im1, ?_⟩
    simp only [gsCons] at q
    cases hf : f d ρ with
    | none => rw [hf] at q; exact q.elim
    | some ρ1 =>
      rw [hf] at q
      intro σ1 H1 C1 E1 R1
      refine ⟨ρ1, ds, R1, ImmL.ext E1 _ _ im2, ?_⟩
      simp only [Option.bind_some] at q
      cases hr : r ds ρ1 with
      | none => rw [hr] at q; exact q.elim
      | some ρ2 => rw [hr] at q; exact fun σ2 H2 C2 E2 R2 => q σ2 H2 (C1.trans C2) (E1.trans E2) R2
def gTp (n : Nat) (r : Gxs) : Gx := fun d ρ => match d with
  | .tup ds => if ds.length = n then r ds ρ else none
  | .lst ds => if ds.length = n then r ds ρ else none
  | .ktp ds => if ds.length = n then r ds ρ else none
  | _ => none
theorem g_tp {k n : Nat} {r : Gxs} {ts : List Nat} (h : GsOk g es ts r) (hn : ∀ env, (assignEach es env).length = n := by intro _; rfl) (hst : ∀ env, (assignEach es env).findIdx? (·.1) = none := by intro _; rfl) : GOk g (.Tuple es k pos) ts (gTp n r) := fun X A => by
  refine PG.imp (PG.or (pg_tup A.calm (h X A) (hn _) (hst _)) (pg_lst A.calm (h X A) (hn _) (hst _))) fun v σ H Q ⟨ρ, d, R, im, q⟩ => ?_
  unfold gTp at q
  cases d with
  | tup ds =>
    dsimp only at q
    split at q
    · rename_i hl
      obtain ⟨a, vs, e, s1, i1⟩ := im
      exact .inl ⟨a, vs, e, s1.seq, by rw [i1.len]; exact hl, ρ, ds, R, i1, q⟩
    · exact q.elim
  | lst ds =>
    dsimp only at q
    split at q
    · rename_i hl
      obtain ⟨a, vs, e, s1, i1⟩ := im
      exact .inr ⟨a, vs, e, s1.seq, by rw [i1.len]; exact hl, ρ, ds, R, i1, q⟩
    · exact q.elim
  | ktp ds =>
    dsimp only at q
    split at q
    · rename_i hl
      obtain ⟨a, vs, e, s1, i1⟩ := im
      exact .inl ⟨a, vs, e, s1.seq, by rw [i1.len]; exact hl, ρ, ds, R, i1, q⟩
    · exact q.elim
  | _ => exact q.elim
/-- target = e -/
def sAsg (l : List Nat) (f : Ex) (t : Gx) : Sx := fun ρ => eF l f ρ >>= fun p => liftO (t p.1 p.2) >>= fun ρ' => .ok (.next ρ')
theorem s_asg {tg : Expr} {f : Ex} {t : Gx} {ts : List Nat} (h : EOk g e f) (hg : GOk g tg ts t) (hs : ∀ env, swapsWithSole [tg] e pos.line env = pure false := by intro _; rfl) (hw : ∀ env, swappedStores [tg] e env = pure none := by intro _; rfl)
    (h1 : ∀ env, (assignEach [tg] env).map (·.2) = [assign tg env] := by intro _; rfl) : SOk g (.Assign [tg] e pos) (sAsg g.ios f t) := fun X W A tk => by
  refine PS.imp (ps_asg (h.f A.toAt tk) (hg X A.toAt) (hs _) (hw _) (h1 _)) fun D σ H ⟨ρ, R, q⟩ => ⟨ρ, R, Ps_step q fun p _ q1 H1 E1 R1 x im => ⟨p.2, p.1, R1, im, ?_⟩⟩
  obtain ⟨ρ2, ht, q2⟩ := q1.opt
  rw [ht]
  exact fun σ2 H2 _ E2 R2 => q2 σ2 H2 (E1.trans E2) R2
end
end PL

namespace PL
open PySem PySem.Spec PyProof.Rows L2
section
variable {g : Cf} {X : Cx} {e a b c tg : Expr} {es : List Expr} {pos : Pos} {K : PySem.W.Frag} {W : WX} {body orelse : List Stmt} {f h : Sx} {t : Tx}
/-! ### if -/
def sIf (t : Tx) (f h : Sx) : Sx := fun ρ => t ρ >>= fun p => if p.1 = true then f p.2 else h p.2
theorem s_if (hc : TOk g c t) (ha : SsOk g body f) (hb : SsOk g orelse h) : SOk g (.If c body orelse pos) (sIf t f h) := fun X W A tk => by
  refine PS.imp (ps_if (hc X W A.toAt tk) (ha X W A tk) (hb X W A tk)) fun D σ H ⟨ρ, R, q⟩ => ⟨ρ, R, Ps_step q fun p _ q1 H1 E1 R1 => ?_⟩
  cases hp : p.1 with
  | true => rw [hp] at q1; exact iteT ⟨p.2, R1, PsS.ext E1 q1⟩
  | false => rw [hp] at q1; exact iteF ⟨p.2, R1, PsS.ext E1 q1⟩
/-! ### loops -/
def aft (k : Sx) : Fl → Out Fl
  | .next ρ' => k ρ'
  | .cnt ρ' => k ρ'
  | .brk ρ' => .ok (.next ρ')
  | .ret s ρ' => .ok (.ret s ρ')
theorem aft_ps {H : Hp} {D : Ends} {r : Out Fl} {k : Sx} {N : L2.St → Hp → Prop} (q : PsS K g H W D (r >>= aft k)) (hN : ∀ ρ' σ' H', Ext H H' → ER K g ρ' σ' H' → PsS K g H' W D (k ρ') → N σ' H') : PsS K g H W { D with nx := N, ct := N, bk := D.nx } r := by
  cases r with
  | stuck => exact q.elim
  | exc c ρ1 => exact q
  | ok p =>
    cases p with
    | next ρ' => exact fun σ' H' x R => hN ρ' σ' H' x R (PsS.ext x q)
    | cnt ρ' => exact fun σ' H' x R => hN ρ' σ' H' x R (PsS.ext x q)
    | brk ρ' => exact q
    | ret s ρ' => exact q
def sWh (t : Tx) (f : Sx) : Nat → Sx
  | 0, _ => .stuck
  | n + 1, ρ => t ρ >>= fun p => if p.1 = true then f p.2 >>= aft (sWh t f n) else .ok (.next p.2)
theorem s_wh (n : Nat) (hc : TOk g c t) (hb : SsOk g body f) : SOk g (.While c body [] pos) (sWh t f n) := fun X W A tk => by
  refine PS.imp (ps_while A.own (hc X W A.toAt tk) (hb X W A tk)) fun D σ H ⟨ρ, R, q⟩ => ?_
  refine ⟨fun m σ H => ∃ ρ, ER X.K g ρ σ H ∧ PsS X.K g H W D (sWh t f m ρ), ⟨n, ρ, R, q⟩, ?_⟩
  rintro m σ H ⟨ρ, R, q⟩
  cases m with
  | zero => exact q.elim
  | succ m =>
    refine ⟨ρ, R, Ps_step q fun p _ q1 H1 E1 R1 => ?_⟩
    cases hp : p.1 with
    | false =>
      rw [hp] at q1
      exact iteF (q1 σ H1 E1 R1)
    | true =>
      rw [hp] at q1
      refine iteT ⟨fun σ' H' => ∃ ρ, ER X.K g ρ σ' H' ∧ PsS X.K g H' W D (sWh t f m ρ), fun σ' H' hN => ⟨m, Nat.lt_succ_self m, hN⟩, p.2, R1, ?_⟩
      exact aft_ps (PsS.ext E1 q1) fun ρ' σ' H' x R' q' => ⟨ρ', R', q'⟩
/-! ### what is walked -/
abbrev Ix := Rho → Out (List D × Rho)
def ItOk (K : PySem.W.Frag) (J : It) (ds : List D) (H : Hp) : Prop :=
  ∃ (G : Hp → Prop) (Y : Nat → Hp → V → Hp → Prop), Walk J ds.length G Y ∧ G H ∧ (∀ H1 H2, Ext H1 H2 → G H1 → G H2) ∧
    ∀ i H1 x H2, i < ds.length → G H1 → Y i H1 x H2 → Same H1 H2 ∧ ∃ d, ds[i]? = some d ∧ Imm K H2 d x
def tI (K : PySem.W.Frag) (g : Cf) (f : Ix) (W : WX) : TI := fun σ H R => ∃ ρ, ER K g ρ σ H ∧ Pst K g σ H W (fun p H' => ER K g p.2 σ H' → ∀ J, ItOk K J p.1 H' → R J H') (f ρ)
def IOk (g : Cf) (tg e : Expr) (f : Ix) : Prop := ∀ (X : Cx) (W : WX), At g X → Takes X W → PI X tg e (tI X.K g f W)
def lp (t : Gx) (f : Sx) : List D → Sx
  | [], ρ => .ok (.next ρ)
  | d :: ds, ρ => liftO (t d ρ) >>= fun ρ1 => f ρ1 >>= aft (lp t f ds)
def sFor (i : Ix) (t : Gx) (f : Sx) : Sx := fun ρ => i ρ >>= fun p => lp t f p.1 p.2
theorem s_for {i : Ix} {tx : Gx} {ts : List Nat} (hi : IOk g tg e i) (ht : GOk g tg ts tx) (hb : SsOk g body f) (hs : ∀ env x, foldedSetIterable e env x = pure x := by intro _ _; rfl) : SOk g (.For tg e body [] pos) (sFor i tx f) := fun X W A tk => by
  refine PS.imp (ps_for A.own A.calm (hi X W A.toAt tk) (ht X A.toAt) (hb X W A tk) (hs _)) fun D σ H ⟨ρ, R, q⟩ => ⟨ρ, R, Ps_step q fun p _ q1 H1 E1 R1 J it => ?_⟩
  obtain ⟨ds, ρ1⟩ := p
  obtain ⟨G, Y, w, g1, gs, y⟩ := it
  refine for_it w (fun i σ H => G H ∧ ∃ ρ, ER X.K g ρ σ H ∧ PsS X.K g H W D (lp tx f (ds.drop i) ρ)) ⟨g1, ρ1, R1, PsS.ext E1 q1⟩ (fun i σ H _ h => h.1) (fun i x σ2 H2 H3 hi h hy => ?_) (fun σ2 H2 h => ?_)
  · obtain ⟨g2, ρ2, R2, q2⟩ := h
    obtain ⟨sm, d, hd, im⟩ := y i H2 x H3 hi g2 hy
    have hdrop : ds.drop i = d :: ds.drop (i + 1) := by
      have e1 := List.drop_eq_getElem_cons hi
      rw [List.getElem?_eq_getElem hi] at hd
      rw [e1, Option.some.inj hd]
    rw [hdrop] at q2
    obtain ⟨ρ3, ht3, q3⟩ := q2.opt
    refine ⟨ρ2, d, R2.same sm, im, ?_⟩
    rw [ht3]
    intro σ4 H4 _ E4 R4
    refine ⟨ρ3, R4, aft_ps (PsS.ext ((Ext.of_same sm).trans E4) q3) fun ρ' σ' H' x R' q' => ⟨gs _ _ ((Ext.of_same sm).trans (E4.trans x)) g2, ρ', R', q'⟩⟩
  · obtain ⟨_, ρ2, R2, q2⟩ := h
    rw [List.drop_length] at q2
    exact q2 σ2 H2 (Ext.refl _) R2
/-! ### lists, tuples, texts, dicts' keys -/
theorem PI.or {X : Cx} {tg e : Expr} {t t' : TI} (h : PI X tg e t) (h' : PI X tg e t') : PI X tg e (fun σ H R => t σ H R ∨ t' σ H R) := ⟨fun pins s σ H R I q => by
  rcases q with q | q
  · exact h.run pins s σ H R I q
  · exact h'.run pins s σ H R I q⟩
def dIter : D → Option (List D)
  | .tup ds => some ds
  | .lst ds => some ds
  | .scr ns => some (ns.map .int)
  | .ktp ds => some ds
  | .str z => some (z.cps.toList.map fun c => .str ⟨#[c]⟩)
  | .dic _ kvs => some (kvs.map (·.1))
  | _ => none
theorem walkImm {K : PySem.W.Frag} {ds : List D} {vs : List V} {G : Hp → Prop} (im : ∀ H, G H → ImmL K H ds vs) : ∀ i H1 x H2, i < ds.length → G H1 → YAt vs i H1 x H2 → Same H1 H2 ∧ ∃ d, ds[i]? = some d ∧ Imm K H2 d x := fun i H1 x H2 hi hg hy => by
  obtain ⟨rfl, h2⟩ := hy
  exact ⟨Same.refl _, (im H2 hg).get h2⟩
theorem it_tup {K : PySem.W.Frag} {H : Hp} {ds : List D} {vs : List V} {a : Addr} (h1 : TpT K H a vs) (h2 : ImmL K H ds vs) : ItOk K (Itt K a) ds H := by
  refine ⟨fun H => TpT K H a vs ∧ ImmL K H ds vs, YAt vs, ?_, ⟨h1, h2⟩, fun H1 H2 e g => ⟨e.sqT g.1, ImmL.ext e _ _ g.2⟩, walkImm fun H g => g.2⟩
  rw [← h2.len]
  exact walk_tup.mono (fun H g => g.1.seq) fun _ _ _ _ _ _ y => y
theorem it_ktp {K : PySem.W.Frag} {H : Hp} {ds : List D} {vs : List V} {a : Addr} (h1 : KtT K a vs) (h2 : ImmL K H ds vs) : ItOk K (Itt K a) ds H := by
  refine ⟨fun H => KtT K a vs ∧ ImmL K H ds vs, YAt vs, ?_, ⟨h1, h2⟩, fun H1 H2 e g => ⟨g.1, ImmL.ext e _ _ g.2⟩, walkImm fun H g => g.2⟩
  rw [← h2.len]
  exact walk_tup.mono (fun H g => g.1.seq) fun _ _ _ _ _ _ y => y
theorem it_lst {K : PySem.W.Frag} {H : Hp} {ds : List D} {vs : List V} {a : Addr} (h1 : FzL K H a vs) (h2 : ImmL K H ds vs) : ItOk K (Itl K a) ds H := by
  refine ⟨fun H => FzL K H a vs ∧ ImmL K H ds vs, YAt vs, ?_, ⟨h1, h2⟩, fun H1 H2 e g => ⟨e.fzL g.1, ImmL.ext e _ _ g.2⟩, walkImm fun H g => g.2⟩
  rw [← h2.len]
  exact walk_list.mono (fun H g => g.1.seq) fun _ _ _ _ _ _ y => y
theorem it_scr {K : PySem.W.Frag} {H : Hp} {ns : List Int} {a : Addr} (h1 : ScrL K H a (ns.map V.int)) : ItOk K (Itl K a) (ns.map .int) H := by
  refine ⟨fun H => ScrL K H a (ns.map V.int), YAt (ns.map V.int), ?_, h1, fun H1 H2 e g => e.scrL g, walkImm fun H g => immL_map_int ns⟩
  have := (walk_list (K := K) (a := a) (xs := ns.map V.int)).mono (G' := fun H => ScrL K H a (ns.map V.int)) (fun H g => g.seq) fun _ _ _ _ _ _ y => y
  rw [List.length_map] at this ⊢
  exact this
theorem it_str {K : PySem.W.Frag} {H : Hp} {z : Str} : ItOk K (Its z) (z.cps.toList.map fun c => .str ⟨#[c]⟩) H := by
  refine ⟨fun _ => True, fun i H v H' => H' = H ∧ ∃ c, z.cps[i]? = some c ∧ v = .str ⟨#[c]⟩, ?_, trivial, fun _ _ _ g => g, fun i H1 x H2 hi _ hy => ?_⟩
  · have := walk_str (z := z)
    rw [List.length_map, Array.length_toList]
    exact this
  · obtain ⟨rfl, c, h1, rfl⟩ := hy
    refine ⟨Same.refl _, .str ⟨#[c]⟩, ?_, rfl⟩
    rw [List.getElem?_map, Array.getElem?_toList, h1]
    rfl
theorem immK_get {K : PySem.W.Frag} {H : Hp} : ∀ {kvs : List (D × D)} {kws : List (Key × V)} {i : Nat} {k : Key} {v : V}, ImmK K H kvs kws → kws[i]? = some (k, v) → ∃ kd d, kvs[i]? = some (kd, d) ∧ keyD kd = some k ∧ Imm K H d v
  | [], _, _, _, _, h, e => by cases (show _ = _ from h); simp at e
  | (kd, d) :: ds, _, 0, k, x, ⟨kk, v, r, e1, h0, h1, h2⟩, e => by subst e1; simp at e; obtain ⟨rfl, rfl⟩ := e; exact ⟨kd, d, rfl, h0, h1⟩
  | (kd, d) :: ds, _, i + 1, k, x, ⟨kk, v, r, e1, h0, h1, h2⟩, e => by
    subst e1
    obtain ⟨kd', d', h3, h4⟩ := immK_get (i := i) (k := k) (v := x) h2 (by simpa using e)
    exact ⟨kd', d', by simpa using h3, h4⟩
theorem immK_len {K : PySem.W.Frag} {H : Hp} : ∀ {ds : List (D × D)} {vs : List (Key × V)}, ImmK K H ds vs → vs.length = ds.length
  | [], _, h => by cases (show _ = _ from h); rfl
  | (_, d) :: ds, _, ⟨_, v, r, e1, _, h1, h2⟩ => by rw [e1, List.length_cons, List.length_cons, immK_len h2]
theorem imm_key {K : PySem.W.Frag} {H : Hp} {d : D} {k : Key} (h : keyD d = some k) : Imm K H d (kV k) := by
  cases d <;> cases h <;> rfl
theorem immL_keys {K : PySem.W.Frag} {H : Hp} : ∀ {ds : List D} {ks : List Key}, keysD ds = some ks → ImmL K H ds (ks.map kV)
  | [], _, h => by cases h; rfl
  | d :: ds, ks, h => by
    unfold keysD at h
    cases h1 : keyD d with
    | none => rw [h1] at h; cases h
    | some k =>
      rw [h1] at h
      cases h2 : keysD ds with
      | none => rw [h2] at h; cases h
      | some ks' =>
        rw [h2] at h
        cases h
        exact ⟨_, _, rfl, imm_key h1, immL_keys h2⟩
theorem immT_get {K : PySem.W.Frag} {H : Hp} : ∀ {kvs : List (D × D)} {kws : List (List Key × V)} {i : Nat} {k : List Key} {v : V}, ImmT K H kvs kws → kws[i]? = some (k, v) → ∃ kd d, kvs[i]? = some (.tup kd, d) ∧ keysD kd = some k ∧ Imm K H d v
  | [], _, _, _, _, h, e => by cases (show _ = _ from h); simp at e
  | (.tup kd, d) :: ds, _, 0, k, x, ⟨kk, v, r, e1, h0, h1, h2⟩, e => by subst e1; simp at e; obtain ⟨rfl, rfl⟩ := e; exact ⟨kd, d, rfl, h0, h1⟩
  | (.tup kd, d) :: ds, _, i + 1, k, x, ⟨kk, v, r, e1, h0, h1, h2⟩, e => by
    subst e1
    obtain ⟨kd', d', h3, h4⟩ := immT_get (i := i) (k := k) (v := x) h2 (by simpa using e)
    exact ⟨kd', d', by simpa using h3, h4⟩
  | (.non, _) :: _, _, _, _, _, h, _ => h.elim
  | (.bl _, _) :: _, _, _, _, _, h, _ => h.elim
  | (.int _, _) :: _, _, _, _, _, h, _ => h.elim
  | (.str _, _) :: _, _, _, _, _, h, _ => h.elim
  | (.lst _, _) :: _, _, _, _, _, h, _ => h.elim
  | (.dic _ _, _) :: _, _, _, _, _, h, _ => h.elim
  | (.scr _, _) :: _, _, _, _, _, h, _ => h.elim
  | (.ktp _, _) :: _, _, _, _, _, h, _ => h.elim
theorem immT_len {K : PySem.W.Frag} {H : Hp} : ∀ {ds : List (D × D)} {vs : List (List Key × V)}, ImmT K H ds vs → vs.length = ds.length
  | [], _, h => by cases (show _ = _ from h); rfl
  | (.tup _, d) :: ds, _, ⟨_, v, r, e1, _, h1, h2⟩ => by rw [e1, List.length_cons, List.length_cons, immT_len h2]
  | (.non, _) :: _, _, h => h.elim
  | (.bl _, _) :: _, _, h => h.elim
  | (.int _, _) :: _, _, h => h.elim
  | (.str _, _) :: _, _, h => h.elim
  | (.lst _, _) :: _, _, h => h.elim
  | (.dic _ _, _) :: _, _, h => h.elim
  | (.scr _, _) :: _, _, h => h.elim
  | (.ktp _, _) :: _, _, h => h.elim
theorem it_dk {K : PySem.W.Frag} {H : Hp} {kvs : List (D × D)} {kws : List (Key × V)} {a : Addr} {o : Obj} (h1 : H a = some (.frz o (.dK kws))) (h2 : ImmK K H kvs kws) : ItOk K (Itk a o kws) (kvs.map (·.1)) H := by
  refine ⟨fun H => H a = some (.frz o (.dK kws)) ∧ ImmK K H kvs kws, fun i H x H' => H' = H ∧ ∃ k v, kws[i]? = some (k, v) ∧ x = kV k, ?_, ⟨h1, h2⟩, fun H1 H2 e g => ⟨e.frz g.1, ImmK.ext e _ _ g.2⟩, fun i H1 x H2 hi hg hy => ?_⟩
  · have w := (walk_keys (d := a) (o := o) (kvs := kws)).mono (G' := fun H => H a = some (.frz o (.dK kws)) ∧ ImmK K H kvs kws) (fun H g => g.1) fun _ _ _ _ _ _ y => y
    rw [List.length_map, ← immK_len h2]
    exact w
  · obtain ⟨rfl, k, v, h3, rfl⟩ := hy
    obtain ⟨kd, d, h4, h5, _⟩ := immK_get hg.2 h3
    exact ⟨Same.refl _, kd, by rw [List.getElem?_map, h4]; rfl, imm_key h5⟩
theorem it_dt {K : PySem.W.Frag} {H : Hp} {kvs : List (D × D)} {kws : List (List Key × V)} {a : Addr} {o : Obj} (h1 : H a = some (.frz o (.dT kws))) (h2 : ImmT K H kvs kws) : ItOk K (Itkt a o kws) (kvs.map (·.1)) H := by
  refine ⟨fun H => H a = some (.frz o (.dT kws)) ∧ ImmT K H kvs kws, fun i H x H' => H' = H ∧ ∃ (k : List Key) (v : V) (q : Addr), kws[i]? = some (k, v) ∧ x = .ref q ∧ H q = some (.tup (k.map kV)), ?_, ⟨h1, h2⟩, fun H1 H2 e g => ⟨e.frz g.1, ImmT.ext e _ _ g.2⟩, fun i H1 x H2 hi hg hy => ?_⟩
  · have w := (walk_keysT (d := a) (o := o) (kvs := kws)).mono (G' := fun H => H a = some (.frz o (.dT kws)) ∧ ImmT K H kvs kws) (fun H g => g.1) fun _ _ _ _ _ _ y => y
    rw [List.length_map, ← immT_len h2]
    exact w
  · obtain ⟨rfl, k, v, q, h3, rfl, h6⟩ := hy
    obtain ⟨kd, d, h4, h5, _⟩ := immT_get hg.2 h3
    exact ⟨Same.refl _, .tup kd, by rw [List.getElem?_map, h4]; rfl, q, _, rfl, TpT.of h6, immL_keys h5⟩
def iVal (l : List Nat) (f : Ex) : Ix := fun ρ => eF l f ρ >>= fun p => liftO (dIter p.1) >>= fun ds => .ok (ds, p.2)
theorem i_val {f : Ex} (h : EOk g e f) : IOk g tg e (iVal g.ios f) := fun X W A tk => by
  have hf := h.f A tk
  refine PI.imp (PI.or (pi_list hf) (PI.or (pi_tup hf) (PI.or (pi_str hf) (pi_keys hf)))) fun σ H Q ⟨ρ, R, q⟩ => ?_
  have key : ∀ {Q1 : VK}, (∀ d ρ1 x H1, ER X.K g ρ1 σ H1 → Imm X.K H1 d x → (∀ ds, dIter d = some ds → ∀ J, ItOk X.K J ds H1 → Q J H1) → (∃ ds, dIter d = some ds) → (∃ ρ0, eF g.ios f ρ = .ok (d, ρ0)) → Q1 x H1) → tF X.K g f W σ H Q1 := fun {Q1} hk => by
    refine ⟨ρ, R, ?_⟩
    unfold iVal at q
    cases hf : eF g.ios f ρ with
    | stuck => rw [hf] at q; exact q.elim
    | exc c ρ1 => rw [hf] at q; exact q
    | ok p =>
      rw [hf] at q
      intro H1 E1 R1 x im
      obtain ⟨ds, hd, q2⟩ := q.opt
      exact hk p.1 p.2 x H1 R1 im (fun ds' e' J it => by rw [hd] at e'; cases e'; exact q2 H1 E1 R1 J it) ⟨ds, hd⟩ ⟨p.2, hf⟩
  cases hf2 : eF g.ios f ρ with
  | stuck => unfold iVal at q; rw [hf2] at q; exact q.elim
  | exc c ρ1 => exact .inl (key fun d ρ1 x H1 R1 im hJ hd ⟨ρ0, h0⟩ => by rw [hf2] at h0; cases h0)
  | ok p =>
    obtain ⟨d0, ρ0'⟩ := p
    have same : ∀ {d ρ0}, eF g.ios f ρ = .ok (d, ρ0) → d = d0 := fun {d ρ0} h0 => by rw [hf2] at h0; cases h0; rfl
    cases d0 with
    | lst ds =>
      refine .inl (key fun d ρ1 x H1 R1 im hJ hd ⟨ρ0, h0⟩ => ?_)
      cases same h0
      obtain ⟨a, vs, rfl, s1, i1⟩ := im
      exact ⟨a, rfl, ⟨vs, s1.seq⟩, hJ ds rfl _ (it_lst s1 i1)⟩
    | scr ns =>
      refine .inl (key fun d ρ1 x H1 R1 im hJ hd ⟨ρ0, h0⟩ => ?_)
      cases same h0
      obtain ⟨a, rfl, s1⟩ := im
      exact ⟨a, rfl, ⟨_, s1.seq⟩, hJ _ rfl _ (it_scr s1)⟩
    | tup ds =>
      refine .inr (.inl (key fun d ρ1 x H1 R1 im hJ hd ⟨ρ0, h0⟩ => ?_))
      cases same h0
      obtain ⟨a, vs, rfl, s1, i1⟩ := im
      exact ⟨a, rfl, ⟨vs, s1.seq⟩, hJ ds rfl _ (it_tup s1 i1)⟩
    | ktp ds =>
      refine .inr (.inl (key fun d ρ1 x H1 R1 im hJ hd ⟨ρ0, h0⟩ => ?_))
      cases same h0
      obtain ⟨a, vs, rfl, s1, i1⟩ := im
      exact ⟨a, rfl, ⟨vs, s1.seq⟩, hJ ds rfl _ (it_ktp s1 i1)⟩
    | str z =>
      refine .inr (.inr (.inl (key fun d ρ1 x H1 R1 im hJ hd ⟨ρ0, h0⟩ => ?_)))
      cases same h0
      exact ⟨z, im, hJ _ rfl _ it_str⟩
    | dic t kvs =>
      refine .inr (.inr (.inr (key fun d ρ1 x H1 R1 im hJ hd ⟨ρ0, h0⟩ => ?_)))
      cases same h0
      cases t with
      | false => obtain ⟨a, o, kws, rfl, h1, h2⟩ := im; exact ⟨a, o, rfl, .inl ⟨kws, h1, hJ _ rfl _ (it_dk h1 h2)⟩⟩
      | true => obtain ⟨a, o, kws, rfl, h1, h2⟩ := im; exact ⟨a, o, rfl, .inr ⟨kws, h1, hJ _ rfl _ (it_dt h1 h2)⟩⟩
    | _ => exact .inl (key fun d ρ1 x H1 R1 im hJ hd ⟨ρ0, h0⟩ => by cases same h0; obtain ⟨ds, hd⟩ := hd; cases hd)
/-! ### range -/
def rgD (lo : Int) (n : Nat) : List D := (List.range n).map fun k : Nat => .int (lo + k)
theorem it_rg {K : PySem.W.Frag} {H : Hp} {lo : Int} {n : Nat} : ItOk K (Itr lo n) (rgD lo n) H := by
  refine ⟨fun _ => True, YFn fun i => .int (lo + i), ?_, trivial, fun _ _ _ g => g, fun i H1 x H2 hi _ hy => ?_⟩
  · have w := walk_range (lo := lo) (n := n)
    rw [rgD, List.length_map, List.length_range]
    exact w
  · obtain ⟨rfl, rfl⟩ := hy
    rw [rgD, List.length_map, List.length_range] at hi
    refine ⟨Same.refl _, .int (lo + i), ?_, rfl⟩
    rw [rgD, List.getElem?_map, List.getElem?_range hi]
    rfl
def int1 : List D → Option Int
  | [.int j] => if -4611686018427387904 ≤ j ∧ j < 4611686018427387904 then some j else none
  | _ => none
def int2 : List D → Option (Int × Int)
  | [.int i, .int j] => if -4611686018427387904 ≤ i ∧ i < 4611686018427387904 ∧ -4611686018427387904 ≤ j ∧ j < 4611686018427387904 then some (i, j) else none
  | _ => none
def iRg1 (fa : Ax) : Ix := fun ρ => fa ρ >>= fun p => pkL p.2 p.1 >>= fun ds => liftO (int1 ds) >>= fun j => .ok (rgD 0 j.toNat, p.2)
def iRg2 (fa : Ax) : Ix := fun ρ => fa ρ >>= fun p => pkL p.2 p.1 >>= fun ds => liftO (int2 ds) >>= fun j => .ok (rgD j.1 (j.2 - j.1).toNat, p.2)
theorem i_rg1 {p : Pos} {fa : Ax} (hm : g.mg "range" = none) (ha : AOk g [a] fa) (hg : Glo g "range" := by rfl) (hs : ∀ env, starEach [a] env = [(false, eval a env)] := by intro _; rfl) : IOk g tg (.Call (.Name "range" p) [a] [] pos) (iRg1 fa) := fun X W A tk => by
  refine PI.imp (pi_range1 (hg.gl A) (by rw [A.mg]; exact hm) (ha X W A tk) (hs _)) fun σ H Q ⟨ρ, R, q⟩ => tA_step R q fun ss ρ1 xs H1 R1 E1 n1 q1 => ?_
  obtain ⟨ds, h1, q3⟩ := q1.pkL
  obtain ⟨j, ho, q5⟩ := q3.opt
  have pr := pkL_rd R1 n1 h1
  match ds, ho with
  | [.int j'], ho =>
    obtain ⟨x, rfl, r⟩ := pair1 pr
    simp only [int1] at ho
    split at ho
    · rename_i hz
      cases ho
      exact ⟨j, by rw [r.int], hz.1, hz.2, q5 H1 (Ext.refl _) R1 _ it_rg⟩
    · cases ho
theorem i_rg2 {p : Pos} {fa : Ax} (hm : g.mg "range" = none) (ha : AOk g [a, b] fa) (hg : Glo g "range" := by rfl) (hs : ∀ env, starEach [a, b] env = [(false, eval a env), (false, eval b env)] := by intro _; rfl) (hs2 : ∀ env, starEach [b] env = [(false, eval b env)] := by intro _; rfl) :
    IOk g tg (.Call (.Name "range" p) [a, b] [] pos) (iRg2 fa) := fun X W A tk => by
  refine PI.imp (pi_range2 (hg.gl A) (by rw [A.mg]; exact hm) (ha X W A tk) (hs _) (hs2 _)) fun σ H Q ⟨ρ, R, q⟩ => tA_step R q fun ss ρ1 xs H1 R1 E1 n1 q1 => ?_
  obtain ⟨ds, h1, q3⟩ := q1.pkL
  obtain ⟨j, ho, q5⟩ := q3.opt
  have pr := pkL_rd R1 n1 h1
  match ds, ho with
  | [.int i', .int j'], ho =>
    obtain ⟨x, y, rfl, r, r'⟩ := pair2 pr
    simp only [int2] at ho
    split at ho
    · rename_i hz
      cases ho
      exact ⟨i', j', by rw [r.int, r'.int], hz, q5 H1 (Ext.refl _) R1 _ it_rg⟩
    · cases ho
end
end PL

namespace PL
open PySem PySem.Spec PyProof.Rows L2
/-! ### slots forgotten -/
def wipeE (ρ : Rho) : List Nat → Rho
  | [] => ρ
  | v :: vs => (wipeE ρ vs).set v none
theorem wipe_get (σ : L2.St) (j : Nat) : ∀ vs : List Nat, (wipe σ vs)[j]? = if j ∈ vs then (if j < σ.length then some none else none) else σ[j]?
  | [] => by simp [wipe]
  | v :: vs => by
    unfold wipe
    have ih := wipe_get σ j vs
    by_cases hj : v = j
    · subst hj
      rw [if_pos List.mem_cons_self]
      by_cases hl : v < σ.length
      · rw [if_pos hl, List.getElem?_set_self (by rw [wipe_length]; exact hl)]
      · rw [if_neg hl, List.getElem?_eq_none (by rw [List.length_set, wipe_length]; omega)]
    · rw [List.getElem?_set_ne hj, ih]
      have : (j ∈ v :: vs) ↔ j ∈ vs := by
        rw [List.mem_cons]
        exact ⟨fun h => h.elim (fun z => (hj z.symm).elim) id, .inr⟩
      simp only [this]
theorem wipeE_len (ρ : Rho) : ∀ vs : List Nat, (wipeE ρ vs).length = ρ.length
  | [] => rfl
  | v :: vs => by unfold wipeE; rw [List.length_set, wipeE_len ρ vs]
theorem wipeE_get (ρ : Rho) (j : Nat) : ∀ vs : List Nat, (wipeE ρ vs)[j]? = if j ∈ vs then (if j < ρ.length then some none else none) else ρ[j]?
  | [] => by simp [wipeE]
  | v :: vs => by
    unfold wipeE
    have ih := wipeE_get ρ j vs
    by_cases hj : v = j
    · subst hj
      rw [if_pos List.mem_cons_self]
      by_cases hl : v < ρ.length
      · rw [if_pos hl, List.getElem?_set_self (by rw [wipeE_len]; exact hl)]
      · rw [if_neg hl, List.getElem?_eq_none (by rw [List.length_set, wipeE_len]; omega)]
    · rw [List.getElem?_set_ne hj, ih]
      have : (j ∈ v :: vs) ↔ j ∈ vs := by
        rw [List.mem_cons]
        exact ⟨fun h => h.elim (fun z => (hj z.symm).elim) id, .inr⟩
      simp only [this]
theorem wipeE_some {ρ : Rho} {j : Nat} {s : S} {vs : List Nat} (h : (wipeE ρ vs)[j]? = some (some s)) : j ∉ vs ∧ ρ[j]? = some (some s) := by
  rw [wipeE_get] at h
  split at h
  · split at h <;> cases h
  · rename_i hj; exact ⟨hj, h⟩
theorem wipe_chs {ts vs : List Nat} {σ σ' : L2.St} (c : Chs ts σ σ') (h : ∀ i ∈ ts, i ∈ vs) : wipe σ' vs = wipe σ vs := by
  apply List.ext_getElem?
  intro j
  rw [wipe_get, wipe_get, c.1]
  by_cases hj : j ∈ vs
  · rw [if_pos hj, if_pos hj]
  · rw [if_neg hj, if_neg hj, c.2 j fun z => hj (h j z)]
theorem wipe_wipe (σ : L2.St) (vs : List Nat) : wipe (wipe σ vs) vs = wipe σ vs := by
  apply List.ext_getElem?
  intro j
  rw [wipe_get, wipe_get, wipe_length]
  by_cases hj : j ∈ vs
  · rw [if_pos hj, if_pos hj]
  · rw [if_neg hj, if_neg hj]
section
variable {g : Cf} {X : Cx} {K : PySem.W.Frag}
theorem ER.wipe {σ : L2.St} {H : Hp} {ρ : Rho} {vs : List Nat} (R : ER K g ρ σ H) (hio : ∀ i ∈ vs, i ∉ g.ios) : ER K g (wipeE ρ vs) (L2.wipe σ vs) H := by
  have sg : ∀ j, j ∉ vs → (L2.wipe σ vs)[j]? = σ[j]? := fun j hj => by rw [wipe_get, if_neg hj]
  refine ⟨by rw [wipeE_len, wipe_length]; exact R.len, fun j d h => ?_, fun j d h => ?_, fun j m h => ?_, fun j m d d' a h1 h2 h3 h4 => ?_, R.old, fun j d a h1 h2 => ?_, fun p hp => ?_⟩
  · obtain ⟨hj, h⟩ := wipeE_some h
    rw [sg j hj]
    exact R.val j d h
  · obtain ⟨hj, h⟩ := wipeE_some h
    rw [sg j hj]
    exact R.own j d h
  · obtain ⟨hj, h⟩ := wipeE_some h
    exact R.bor j m h
  · obtain ⟨hj, h1⟩ := wipeE_some h1
    obtain ⟨hm, h2⟩ := wipeE_some h2
    rw [sg j hj] at h3
    rw [sg m hm] at h4
    exact R.sep j m d d' a h1 h2 h3 h4
  · obtain ⟨hj, h1⟩ := wipeE_some h1
    rw [sg j hj] at h2
    exact R.new j d a h1 h2
  · obtain ⟨h1, d, h2⟩ := R.io p hp
    have hj : p.1 ∉ vs := fun z => hio _ z (List.mem_map.mpr ⟨p, hp, rfl⟩)
    rw [sg _ hj]
    refine ⟨h1, d, ?_⟩
    rw [wipeE_get, if_neg hj]
    exact h2
theorem own_wipe {σ : L2.St} {ρ : Rho} {vs : List Nat} {a : Addr} (h : Own (wipeE ρ vs) (L2.wipe σ vs) a) : Own ρ σ a := by
  obtain ⟨i, d, h1, h2⟩ := h
  obtain ⟨hi, h1⟩ := wipeE_some h1
  rw [wipe_get, if_neg hi] at h2
  exact ⟨i, d, h1, h2⟩
/-- what stood ahead of a block and is none of the names' own -/
noncomputable def hold (ρ : Rho) (σ : L2.St) (H : Hp) : Hp := fun a => open Classical in if Own ρ σ a then none else H a
theorem hold_own {ρ : Rho} {σ : L2.St} {H : Hp} {a : Addr} (h : Own ρ σ a) : hold ρ σ H a = none := by unfold hold; rw [if_pos h]
theorem hold_not {ρ : Rho} {σ : L2.St} {H : Hp} {a : Addr} (h : ¬ Own ρ σ a) : hold ρ σ H a = H a := by unfold hold; rw [if_neg h]
theorem ER.rebase {σ : L2.St} {H : Hp} {ρ : Rho} (R : ER K g ρ σ H) (g' : Cf) (h0 : g'.H0 = hold ρ σ H) (hi : g'.io = g.io) : ER K g' ρ σ H where
  len := R.len
  val := R.val
  own := R.own
  bor := R.bor
  sep := R.sep
  old := fun a o h _ => by
    rw [h0] at h
    by_cases ho : Own ρ σ a
    · rw [hold_own ho] at h; cases h
    · rw [hold_not ho] at h; exact h
  new := fun i d a h1 h2 => .inl (by rw [h0]; exact hold_own ⟨i, d, h1, h2⟩)
  io := by rw [hi]; exact R.io
theorem ER.back {σ σ2 : L2.St} {H H2 : Hp} {ρ ρ2 : Rho} (R : ER K g ρ σ H) {g' : Cf} (h0 : g'.H0 = hold ρ σ H) (hi : g'.io = g.io) (R2 : ER K g' ρ2 σ2 H2) : ER K g ρ2 σ2 H2 where
  len := R2.len
  val := R2.val
  own := R2.own
  bor := R2.bor
  sep := R2.sep
  old := fun a o h hp => by
    refine R2.old a o ?_ (by rw [hi]; exact hp)
    have no : ¬ Own ρ σ a := fun ⟨i, d, h1, h2⟩ => by
      rcases R.new i d a h1 h2 with z | z
      · rw [h] at z; cases z
      · exact hp _ z rfl
    rw [h0, hold_not no]
    exact R.old a o h hp
  new := fun i d a h1 h2 => by
    rcases R2.new i d a h1 h2 with z | z
    · rw [h0] at z
      by_cases ho : Own ρ σ a
      · obtain ⟨j, e, h3, h4⟩ := ho
        rcases R.new j e a h3 h4 with y | y
        · exact .inl y
        · have y' := y
          rw [← hi] at y'
          obtain ⟨h5, e', h6⟩ := R2.io _ y'
          have := R2.sep i j d e' a h1 h6 h2 h5
          subst this
          exact .inr y
      · rw [hold_not ho] at z
        exact .inl (not_old R z)
    · rw [hi] at z; exact .inr z
  io := by have := R2.io; rw [hi] at this; exact this
/-! ### a comprehension's block -/
noncomputable def Cf.blk (g : Cf) (scope : Scope) (H0 : Hp) : Cf := { g with sc := relS scope g.sc, fn := fun x => scope.names.lookup x == some .cell, H0 := H0 }
theorem At.blk (A : At g X) {scope : Scope} {s : Shared} {H H0 : Hp} {C : Addr} {cl : List (Str × Addr)} {fp : List Addr} : At (g.blk scope H0) (X.blk s H scope (compEnvC scope cl C X.env) fp) where
  prog := A.prog
  w := A.w
  K := A.K
  mg := A.mg
  base := A.base
  N := A.N
  sc := by
    show (compEnvC scope cl C X.env).scope = _
    show relS scope X.env.scope = relS scope g.sc
    rw [A.sc]
  fn := fun x h => h
  room := A.room
  calm := A.calm
end
def nox {α : Type} : Out α → Out α
  | .ok a => .ok a
  | _ => .stuck
/-- the names of the block as they were ahead of it, the others as it leaves them -/
def unwipe (vs : List Nat) (ρ : Rho) (ρ' : Rho) : Rho := match vs with
  | [] => ρ'
  | v :: vs => (unwipe vs ρ ρ').set v (match ρ[v]? with
    | some (some (.v d)) => some (.v d)
    | _ => none)
theorem unwipe_len (ρ ρ' : Rho) : ∀ vs : List Nat, (unwipe vs ρ ρ').length = ρ'.length
  | [] => rfl
  | v :: vs => by unfold unwipe; rw [List.length_set, unwipe_len ρ ρ' vs]
theorem unwipe_some {ρ ρ' : Rho} {j : Nat} {s : S} : ∀ {vs : List Nat}, (unwipe vs ρ ρ')[j]? = some (some s) → (j ∉ vs ∧ ρ'[j]? = some (some s)) ∨ (j ∈ vs ∧ ρ[j]? = some (some s) ∧ ∃ d, s = .v d)
  | [], h => .inl ⟨by simp, h⟩
  | v :: vs, h => by
    unfold unwipe at h
    by_cases hj : v = j
    · subst hj
      right
      by_cases hl : v < (unwipe vs ρ ρ').length
      · rw [List.getElem?_set_self hl] at h
        split at h
        · rename_i d hd
          cases h
          exact ⟨List.mem_cons_self, hd, d, rfl⟩
        · cases h
      · rw [List.getElem?_eq_none (by rw [List.length_set]; omega)] at h; cases h
    · rw [List.getElem?_set_ne hj] at h
      rcases unwipe_some h with ⟨h1, h2⟩ | ⟨h1, h2⟩
      · exact .inl ⟨fun z => (List.mem_cons.mp z).elim (fun z => hj z.symm) h1, h2⟩
      · exact .inr ⟨List.mem_cons_of_mem _ h1, h2⟩
theorem unwipe_out {ρ ρ' : Rho} {j : Nat} : ∀ {vs : List Nat}, j ∉ vs → (unwipe vs ρ ρ')[j]? = ρ'[j]?
  | [], _ => rfl
  | v :: vs, h => by
    unfold unwipe
    rw [List.getElem?_set_ne (fun z => h (by rw [z]; exact List.mem_cons_self)), unwipe_out fun z => h (List.mem_cons_of_mem _ z)]
section
variable {g : Cf} {X : Cx} {K : PySem.W.Frag}
theorem ER.unwipe {σ : L2.St} {H H' : Hp} {ρ ρ' : Rho} {vs : List Nat} (R : ER K g ρ σ H) (R' : ER K g ρ' (L2.wipe σ vs) H') (e : Ext H H') (hio : ∀ i ∈ vs, i ∉ g.ios) : ER K g (PL.unwipe vs ρ ρ') σ H' := by
  have sg : ∀ j, j ∉ vs → (L2.wipe σ vs)[j]? = σ[j]? := fun j hj => by rw [wipe_get, if_neg hj]
  refine ⟨by rw [unwipe_len, R'.len, wipe_length], fun j d h => ?_, fun j d h => ?_, fun j m h => ?_, fun j m d d' a h1 h2 h3 h4 => ?_, R'.old, fun j d a h1 h2 => ?_, fun p hp => ?_⟩
  · rcases unwipe_some h with ⟨hj, h⟩ | ⟨hj, h, _⟩
    · have := R'.val j d h
      rw [sg j hj] at this
      exact this
    · obtain ⟨x, h1, h2⟩ := R.val j d h
      exact ⟨x, h1, Imm.ext e _ _ h2⟩
  · rcases unwipe_some h with ⟨hj, h⟩ | ⟨hj, h, _, z⟩
    · have := R'.own j d h
      rw [sg j hj] at this
      exact this
    · cases z
  · rcases unwipe_some h with ⟨hj, h⟩ | ⟨hj, h, _, z⟩
    · exact R'.bor j m h
    · cases z
  · rcases unwipe_some h1 with ⟨hj, h1⟩ | ⟨_, _, _, z⟩
    · rcases unwipe_some h2 with ⟨hm, h2⟩ | ⟨_, _, _, z⟩
      · rw [← sg j hj] at h3
        rw [← sg m hm] at h4
        exact R'.sep j m d d' a h1 h2 h3 h4
      · cases z
    · cases z
  · rcases unwipe_some h1 with ⟨hj, h1⟩ | ⟨_, _, _, z⟩
    · rw [← sg j hj] at h2
      exact R'.new j d a h1 h2
    · cases z
  · obtain ⟨h1, d, h2⟩ := R'.io p hp
    have hj : p.1 ∉ vs := fun z => hio _ z (List.mem_map.mpr ⟨p, hp, rfl⟩)
    rw [sg _ hj] at h1
    exact ⟨h1, d, by rw [unwipe_out hj]; exact h2⟩
theorem own_unwipe {σ : L2.St} {ρ ρ' : Rho} {vs : List Nat} {a : Addr} (h : Own (PL.unwipe vs ρ ρ') σ a) : Own ρ' (L2.wipe σ vs) a := by
  obtain ⟨i, d, h1, h2⟩ := h
  rcases unwipe_some h1 with ⟨hj, h⟩ | ⟨_, _, _, z⟩
  · exact ⟨i, d, h, by rw [wipe_get, if_neg hj]; exact h2⟩
  · cases z
end
section
variable {g : Cf} {X : Cx} {e a b c tg elt iter : Expr} {ifs : List Expr} {pos : Pos} {W : WX}
def tsNo : Tx := fun ρ => .ok (true, ρ)
def TsOk (g : Cf) (es : List Expr) (f : Tx) : Prop := ∀ (X : Cx) (W : WX), At g X → Takes X W → PTs X es (tT X.K g f W)
theorem ts_no : TsOk g [] tsNo := fun X W A tk => ⟨fun pins s σ H Q I ⟨ρ, R, q⟩ => pts_nil.run pins s σ H Q I (q H (Ext.refl H) R)⟩
theorem ts_one {t : Tx} (h : TOk g c t) : TsOk g [c] t := fun X W A tk => pts_one (h X W A tk)
def lcLp (l vs : List Nat) (ft : Gx) (tt : Tx) (fe : Ex) : List D → Rho → List D → Out (List D × Rho)
  | [], ρ, acc => .ok (acc, ρ)
  | d :: ds, ρ, acc => liftO (ft d ρ) >>= fun ρ1 => tt ρ1 >>= fun p =>
      if p.1 = true then eF l fe p.2 >>= fun q => if acc.length < 16777216 then lcLp l vs ft tt fe ds (wipeE q.2 vs) (acc ++ [q.1]) else .stuck
      else lcLp l vs ft tt fe ds (wipeE p.2 vs) acc
def eLc (l vs : List Nat) (fi : Ix) (ft : Gx) (tt : Tx) (fe : Ex) : Ex := fun ρ => fi ρ >>= fun p => if (∀ i ∈ vs, i ∉ l) then nox (lcLp l vs ft tt fe p.1 (wipeE p.2 vs) []) >>= fun q => .ok (.o (.lst q.1), unwipe vs p.2 q.2) else .stuck
theorem nox_ok {α : Type} {r : Out α} {a : α} (h : nox r = .ok a) : r = .ok a := by cases r <;> cases h; rfl
theorem nox_noexc {α : Type} {r : Out α} {c : Str} {ρ : Rho} (h : nox r = .exc c ρ) : False := by cases r <;> cases h
theorem bind_is {α β : Type} {r : Out α} {k : α → Out β} {b : β} (h : (r >>= k) = .ok b) : ∃ a, r = .ok a ∧ k a = .ok b := by
  cases r with
  | stuck => cases h
  | exc c ρ => cases h
  | ok a => exact ⟨a, rfl, h⟩
theorem liftO_is {α : Type} {o : Option α} {b : α} (h : liftO o = .ok b) : o = some b := by
  cases o with
  | none => cases h
  | some a => cases h; rfl
/-- the heart of a comprehension's reading -/
theorem read_lc {scope : Scope} {own : List (Str × Nat)} {ts vs : List Nat} {fi : Ix} {ft : Gx} {tt : Tx} {fe : Ex} (A : At g X) (hts : ∀ i ∈ ts, i ∈ vs) {σ : L2.St} {H : Hp} {Q : VK} {tgt : TG} {ttt : TT} {tte : TE}
    (hg : ∀ {v σ2 H2 Q} {H0 : Hp}, tGx X.K (g.blk scope H0) ts ft v σ2 H2 Q → tgt v σ2 H2 Q)
    (ht : ∀ {σ2 H2 Q} {H0 : Hp}, tT X.K (g.blk scope H0) tt (fun _ _ _ _ => False) σ2 H2 Q → ttt σ2 H2 Q)
    (he : ∀ {σ2 H2 Q} {H0 : Hp}, tF X.K (g.blk scope H0) fe (fun _ _ _ _ => False) σ2 H2 Q → tte σ2 H2 Q)
    (t : tE X.K g (eLc g.ios vs fi ft tt fe) W σ H Q) : tLc (tI X.K g fi W) tgt ttt tte vs σ H Q := by
  obtain ⟨ρ, R, q⟩ := t
  refine ⟨ρ, R, ?_⟩
  unfold eLc at q
  cases hf : fi ρ with
  | stuck => rw [hf] at q; exact q.elim
  | exc c ρ1 => rw [hf] at q; exact q
  | ok p =>
    obtain ⟨ds, ρ1⟩ := p
    rw [hf] at q
    simp only [bind_ok] at q
    split at q
    case isFalse => exact q.elim
    rename_i hio
    cases hl : nox (lcLp g.ios vs ft tt fe ds (wipeE ρ1 vs) []) with
    | stuck => rw [hl] at q; exact q.elim
    | exc c ρ' => exact (nox_noexc hl).elim
    | ok r =>
      rw [hl] at q
      obtain ⟨out, ρ9⟩ := r
      have hl := nox_ok hl
      intro H1 E1 R1 J it D hD
      obtain ⟨G, Y, w, g1, gs, y⟩ := it
      have smD : Same H1 (upd H1 D (.lst [])) := new_tup (K := X.K) hD
      refine lc_it w (fun i H2 => G H2 ∧ Ext H1 H2 ∧ ∃ ρi acc vacc, ER X.K g ρi (wipe σ vs) H2 ∧ ¬ Own ρi (wipe σ vs) D ∧ H2 D = some (.lst vacc) ∧ ImmL X.K H2 acc vacc ∧ lcLp g.ios vs ft tt fe (ds.drop i) ρi acc = .ok (out, ρ9)) ?_ (fun i H2 _ h => h.1) (fun i x H2 H3 hi h hy => ?_) (fun H2 h => ?_)
      · refine ⟨gs _ _ (Ext.of_same smD) g1, Ext.of_same smD, wipeE ρ1 vs, [], [], (R1.wipe hio).same smD, fun o => not_own R1 hD (own_wipe o), upd_same, rfl, hl⟩
      · obtain ⟨g2, E2, ρi, acc, vacc, Ri, no, hDi, im, hl2⟩ := h
        obtain ⟨sm, d, hd, imd⟩ := y i H2 x H3 hi g2 hy
        have hdrop : ds.drop i = d :: ds.drop (i + 1) := by
          have e1 := List.drop_eq_getElem_cons hi
          rw [List.getElem?_eq_getElem hi] at hd
          rw [e1, Option.some.inj hd]
        rw [hdrop] at hl2
        obtain ⟨ρ2, h2, hl3⟩ := bind_is hl2
        have h2 := liftO_is h2
        obtain ⟨p, h3, hl4⟩ := bind_is hl3
        have Ri3 := Ri.same sm
        have hD3 : H3 D = some (.lst vacc) := sm _ _ hDi
        have Rb : ER X.K (g.blk scope (hold ρi (wipe σ vs) H3)) ρi (wipe σ vs) H3 := Ri3.rebase _ rfl rfl
        have hH0 : hold ρi (wipe σ vs) H3 D = some (.lst vacc) := by rw [hold_not no]; exact hD3
        have notio : ∀ p ∈ g.io, p.2 ≠ D := fun p hp z => by
          obtain ⟨h5, d', h6⟩ := Ri3.io p hp
          exact no ⟨p.1, d', h6, by rw [h5, z]⟩
        -- what a state of the block tells
        have fin : ∀ {ρ4 : Rho} {σ4 : L2.St} {H4 : Hp}, ER X.K (g.blk scope (hold ρi (wipe σ vs) H3)) ρ4 σ4 H4 → Ext H3 H4 → Chs ts (wipe σ vs) σ4 →
            H4 D = some (.lst vacc) ∧ ER X.K g (wipeE ρ4 vs) (wipe σ vs) H4 ∧ ¬ Own (wipeE ρ4 vs) (wipe σ vs) D ∧ G H4 ∧ Ext H1 H4 := fun {ρ4 σ4 H4} R4 E4 C4 => by
          have k1 : H4 D = some (.lst vacc) := R4.old D _ hH0 notio
          have k2 := (Ri3.back (g' := g.blk scope (hold ρi (wipe σ vs) H3)) rfl rfl R4).wipe hio
          have k3 : wipe σ4 vs = wipe σ vs := by rw [wipe_chs C4 hts, wipe_wipe]
          rw [k3] at k2
          refine ⟨k1, k2, fun o => ?_, gs _ _ ((Ext.of_same sm).trans E4) g2, E2.trans ((Ext.of_same sm).trans E4)⟩
          rw [← k3] at o
          obtain ⟨j, d', o1, o2⟩ := own_wipe o
          rcases R4.new j d' D o1 o2 with z | z
          · have z : hold ρi (wipe σ vs) H3 D = none := z
            rw [hH0] at z; cases z
          · exact notio _ z rfl
        refine hg (H0 := hold ρi (wipe σ vs) H3) ⟨ρi, d, Rb, imd, ?_⟩
        rw [h2]
        intro σ4 H4 C4 E4 R4
        refine ⟨by rw [wipe_chs C4 hts, wipe_wipe], ht (H0 := hold ρi (wipe σ vs) H3) ⟨ρ2, R4, ?_⟩⟩
        rw [h3]
        intro H5 E5 R5
        obtain ⟨b, ρ5⟩ := p
        cases b with
        | false =>
          obtain ⟨k1, k2, k3, k4, k5⟩ := fin R5 (E4.trans E5) C4
          refine iteF ⟨k4, k5, _, acc, vacc, k2, k3, k1, ImmL.ext ((Ext.of_same sm).trans (E4.trans E5)) _ _ im, hl4⟩
        | true =>
          obtain ⟨r, h6, hl5⟩ := bind_is hl4
          refine iteT (he (H0 := hold ρi (wipe σ vs) H3) ⟨ρ5, R5, ?_⟩)
          have h6' : eF (g.blk scope (hold ρi (wipe σ vs) H3)).ios fe ρ5 = .ok r := h6
          rw [h6']
          intro H6 E6 R6 v6 im6
          obtain ⟨k1, k2, k3, k4, k5⟩ := fin R6 ((E4.trans E5).trans E6) C4
          split at hl5
          case isFalse => cases hl5
          rename_i hlen
          have im' := ImmL.ext ((Ext.of_same sm).trans ((E4.trans E5).trans E6)) _ _ im
          refine ⟨vacc, k1, by rw [im.len, sizeLine_eq]; exact hlen, ?_⟩
          have x7 : Ext H6 (upd H6 D (.lst (vacc ++ [v6]))) := fun b ob hb => by
            by_cases hba : b = D
            · subst hba
              rw [k1] at hb; cases hb
              exact ⟨fun xs e => (by cases e), fun _ _ e => (by cases e)⟩
            · exact ⟨fun _ _ => by rw [upd_ne hba]; exact hb, fun _ _ _ => by rw [upd_ne hba]; exact hb⟩
          have h0D : g.H0 D = none := not_old R1 hD
          refine ⟨gs _ _ x7 k4, k5.trans x7, _, acc ++ [r.1], vacc ++ [v6], k2.but (a := D) x7 (fun b ob hb hh => by rw [upd_ne hb]; exact hh) k3 h0D, k3, upd_same, (ImmL.ext x7 _ _ im').snoc (Imm.ext x7 _ _ im6), hl5⟩
      · obtain ⟨g2, E2, ρi, acc, vacc, Ri, no, hDi, im, hl2⟩ := h
        rw [List.drop_length] at hl2
        cases hl2
        have R9 := R1.unwipe Ri E2 hio
        exact q H2 (E1.trans E2) R9 _ ⟨D, rfl, ⟨vacc, hDi, im⟩, fun o => no (own_unwipe o), not_old R1 hD⟩
theorem e_lc {scope : Scope} {own : List (Str × Nat)} {ts vs : List Nat} {fi : Ix} {ft : Gx} {tt : Tx} {fe : Ex} (nd : g.N.Nodup) (ok : blkC g.N g.sc scope own = true) (hvs : own.map (·.2) = vs) (hts : (ts.all fun i => vs.contains i) = true) (hi : IOk g tg iter fi)
    (hg : ∀ H0, GOk (g.blk scope H0) tg ts ft) (ht : ∀ H0, TsOk (g.blk scope H0) ifs tt) (he : ∀ H0, EOk (g.blk scope H0) elt fe) (hs : ∀ env x, foldedSetIterable iter env x = pure x := by intro _ _; rfl) :
    EOk g (.ListComp elt [⟨tg, iter, ifs, 0⟩] scope pos) (eLc g.ios vs fi ft tt fe) := fun X W A tk => by
  subst hvs
  have hts' : ∀ i ∈ ts, i ∈ own.map (·.2) := fun i hi => by simpa using List.all_eq_true.mp hts i hi
  have key := pe_lc (g := fun v σ H Q => ∃ H0, tGx X.K (g.blk scope H0) ts ft v σ H Q) (tt := fun σ H Q => ∃ H0, tT X.K (g.blk scope H0) tt (fun _ _ _ _ => False) σ H Q) (te := fun σ H Q => ∃ H0, tF X.K (g.blk scope H0) fe (fun _ _ _ _ => False) σ H Q)
    (own := own) (scope := scope) (pos := pos) A.calm (by rw [A.N]; exact nd) (hi X W A tk) (by rw [A.N, A.sc]; exact blkOk_by ok)
    (fun s H C cl fp => ⟨fun pins s σ H v u Q I r ⟨H0, q⟩ => ((hg H0) _ A.blk).run pins s σ H v u Q I r q⟩)
    (fun s H C cl fp => ⟨fun pins s σ H Q I ⟨H0, q⟩ => ((ht H0) _ _ A.blk takes0).run pins s σ H Q I q⟩)
    (fun s H C cl fp => ⟨fun pins s σ H Q I ⟨H0, q⟩ => ((he H0).f A.blk takes0).run pins s σ H Q I q⟩) (hs _)
  exact PE.imp key fun σ H Q t => read_lc (scope := scope) (own := own) A hts' (fun {v σ2 H2 Q H0} h => ⟨H0, h⟩) (fun {σ2 H2 Q H0} h => ⟨H0, h⟩) (fun {σ2 H2 Q H0} h => ⟨H0, h⟩) t
/-- y = [..] on one line -/
theorem s_lc {x : Str} {i : Nat} {py spos : Pos} {scope : Scope} {own : List (Str × Nat)} {ts vs : List Nat} {fi : Ix} {ft : Gx} {tt : Tx} {fe : Ex} (sl : Slot g x i) (hloc : g.sc.names.lookup x = some .local) (hline : (py.line == pos.line) = true) (hown : (scope.names.any fun (n, k) => n == x && (k == .local || k == .cell)) = false)
    (hkind : g.sc.kind = .function) (ok : blkC g.N g.sc scope own = true) (hvs : own.map (·.2) = vs) (hts : (ts.all fun i => vs.contains i) = true) (hi : IOk g tg iter fi)
    (hg : ∀ H0, GOk (g.blk scope H0) tg ts ft) (ht : ∀ H0, TsOk (g.blk scope H0) ifs tt) (he : ∀ H0, EOk (g.blk scope H0) elt fe) (hs : ∀ env x, foldedSetIterable iter env x = pure x := by intro _ _; rfl) :
    SOk g (.Assign [.Name x py] (.ListComp elt [⟨tg, iter, ifs, 0⟩] scope pos) spos) (sSet g.ios i (eLc g.ios vs fi ft tt fe)) := fun X W A tk => by
  subst hvs
  have hts' : ∀ i ∈ ts, i ∈ own.map (·.2) := fun i hi => by simpa using List.all_eq_true.mp hts i hi
  have key := ps_setLc (i := i) (y := x) (py := py) (spos := spos) (g := fun v σ H Q => ∃ H0, tGx X.K (g.blk scope H0) ts ft v σ H Q) (tt := fun σ H Q => ∃ H0, tT X.K (g.blk scope H0) tt (fun _ _ _ _ => False) σ H Q) (te := fun σ H Q => ∃ H0, tF X.K (g.blk scope H0) fe (fun _ _ _ _ => False) σ H Q)
    (own := own) (scope := scope) (pos := pos) A.calm (by rw [A.N]; exact sl.nd) (by rw [A.N]; exact sl.ix) (by rw [A.sc]; exact hloc) (sw_true (by rw [A.sc]; exact hkind) (by rw [A.sc]; exact hloc) hline hown) (hi X W A.toAt tk) (by rw [A.N, A.sc]; exact blkOk_by ok)
    (fun s H C cl fp => ⟨fun pins s σ H v u Q I r ⟨H0, q⟩ => ((hg H0) _ A.toAt.blk).run pins s σ H v u Q I r q⟩)
    (fun s H C cl fp => ⟨fun pins s σ H Q I ⟨H0, q⟩ => ((ht H0) _ _ A.toAt.blk takes0).run pins s σ H Q I q⟩)
    (fun s H C cl fp => ⟨fun pins s σ H Q I ⟨H0, q⟩ => ((he H0).f A.toAt.blk takes0).run pins s σ H Q I q⟩) (hs _)
  refine PS.imp key fun D σ H ⟨ρ, R, q⟩ => ?_
  refine read_lc (scope := scope) (own := own) (W := W) A.toAt hts' (fun {v σ2 H2 Q H0} h => ⟨H0, h⟩) (fun {σ2 H2 Q H0} h => ⟨H0, h⟩) (fun {σ2 H2 Q H0} h => ⟨H0, h⟩) ⟨ρ, R, ?_⟩
  unfold sSet eBd at q
  cases hf : eLc g.ios (own.map (·.2)) fi ft tt fe ρ with
  | stuck => rw [hf] at q; exact q.elim
  | exc c ρ1 => rw [hf] at q; exact fun cls H' R' x m => q cls σ H' x R' m
  | ok p =>
    obtain ⟨s, ρ1⟩ := p
    rw [hf] at q
    have hso : ∃ d, s = .o d := by
      unfold eLc at hf
      obtain ⟨p1, _, h2⟩ := bind_is hf
      split at h2
      · obtain ⟨p3, _, h4⟩ := bind_is h2
        cases h4
        exact ⟨_, rfl⟩
      · cases h2
    obtain ⟨d, rfl⟩ := hso
    intro H1 E1 R1 x sr
    have q : PsS X.K g H W D (if i ∈ g.ios then .stuck else .ok (.next (ρ1.set i (some (.o d))))) := q
    split at q
    · exact q.elim
    · rename_i hio
      exact q _ H1 E1 (R1.set (s := .o d) sr hio)
end
end PL

namespace PL
open PySem PySem.Spec PyProof.Rows L2
/-! ### defs -/
abbrev Fn := List D → Out S
def spF (K : PySem.W.Frag) (mg : Str → Option Value) (n : Nat) (F : Fn) : Sp := fun vs H Q E => ∃ ds : List D, ds.length = n ∧ ImmL K H ds vs ∧ (match F ds with
  | .ok s => ∀ H' x, Same H H' → RS K H H' s x → Q x H'
  | .exc c _ => ∀ cls H', Same H H' → mg c = some cls → E cls none H'
  | .stuck => False)
def rhoV (m : Nat) (ds : List D) : Rho := ds.map (fun d => some (.v d)) ++ List.replicate m none
def endF : Fl → Out S
  | .ret s _ => .ok s
  | .next _ => .ok (.v .non)
  | _ => .stuck
def runF (m : Nat) (f : Sx) : Fn := fun ds => f (rhoV m ds) >>= endF
theorem immL_all {K : PySem.W.Frag} {H : Hp} {ds : List D} {vs : List V} (h : ImmL K H ds vs) {m : Nat} (i : Nat) (d : D) (e : (rhoV m ds)[i]? = some (some (.v d))) : ∃ x, vs[i]? = some x ∧ Imm K H d x := by
  unfold rhoV at e
  rcases Nat.lt_or_ge i ds.length with hi | hi
  · rw [List.getElem?_append_left (by simpa using hi)] at e
    rw [List.getElem?_map] at e
    cases hd : ds[i]? with
    | none => rw [hd] at e; cases e
    | some d' => rw [hd] at e; cases e; exact h.get' hd
  · rw [List.getElem?_append_right (by simpa using hi)] at e
    rw [List.getElem?_replicate] at e
    split at e <;> cases e
theorem rhoV_v {m : Nat} {ds : List D} {i : Nat} {s : S} (e : (rhoV m ds)[i]? = some (some s)) : ∃ d, s = .v d := by
  unfold rhoV at e
  rcases Nat.lt_or_ge i ds.length with hi | hi
  · rw [List.getElem?_append_left (by simpa using hi)] at e
    rw [List.getElem?_map] at e
    cases hd : ds[i]? with
    | none => rw [hd] at e; cases e
    | some d' => rw [hd] at e; cases e; exact ⟨_, rfl⟩
  · rw [List.getElem?_append_right (by simpa using hi)] at e
    rw [List.getElem?_replicate] at e
    split at e <;> cases e
theorem start_er {K : PySem.W.Frag} {g : Cf} {H : Hp} {ds : List D} {vs : List V} {n m : Nat} (h : ImmL K H ds vs) (hl : ds.length = n) (hm : g.N.length = n + m) (h0 : g.H0 = H) (hio : g.io = []) : ER K g (rhoV m ds) (L2.start g.N vs) H where
  len := by simp only [rhoV, L2.start, List.length_append, List.length_map, List.length_replicate, h.len, hl, hm]; omega
  val := fun i d e => by
    obtain ⟨x, h1, h2⟩ := immL_all h i d e
    refine ⟨x, ?_, h2⟩
    unfold L2.start
    have hi : i < vs.length := by
      rcases Nat.lt_or_ge i vs.length with z | z
      · exact z
      · rw [List.getElem?_eq_none z] at h1; cases h1
    rw [List.getElem?_append_left (by simpa using hi), List.getElem?_map, h1]; rfl
  own := fun i d e => by obtain ⟨d', z⟩ := rhoV_v e; cases z
  bor := fun i j e => by obtain ⟨d', z⟩ := rhoV_v e; cases z
  sep := fun i j d d' a e => by obtain ⟨d', z⟩ := rhoV_v e; cases z
  old := fun a o h _ => by rw [← h0]; exact h
  new := fun i d a e => by obtain ⟨d', z⟩ := rhoV_v e; cases z
  io := fun p hp => by rw [hio] at hp; cases hp
theorem br_rs {K : PySem.W.Frag} {g : Cf} {H H' : Hp} {s : S} {x : V} (h0 : g.H0 = H) (b : BR K g [] [] H' s x) : RS K H H' s x := by
  cases s with
  | v d => exact b
  | o d => obtain ⟨a, h1, h2, _, h4⟩ := b; exact ⟨a, h1, by rw [← h0]; exact h4, h2⟩
  | b i => exact b.elim
/-- a def by its body -/
theorem fn_ok {P : Program} {w : World} {K : PySem.W.Frag} {mg : Str → Option Value} {base : Heap} {x qual : Str} {st : Stmt} {fa : Addr} {fd : FuncData} {N ps : List Str} {k n m : Nat} {f : Sx} (F : L2.Fun K x qual st fa fd) (S : FnScope N ps (defScope st)) (hn : ps.length = n) (hm : N.length = n + m)
    (hb : ∀ H0, SsOk ⟨P, w, K, mg, base, N, defScope st, fun _ => true, k, H0, []⟩ (defBody st) f) : FnOk P w K mg base (L2.CX P w) (k + 1) fa fd ps (spF K mg n (runF m f)) := by
  refine F.okX S (fun vs H Q E ⟨ds, h1, h2, _⟩ => by rw [h2.len, h1, hn]) (fun cdv A outer s H vs Q E hr ⟨ds, h1, h2, h3⟩ => ?_)
  have AA : AtS ⟨P, w, K, mg, base, N, defScope st, fun _ => true, k, H, []⟩ (cxOf (L2.CX P w) P w K mg base N qual (defScope st) fa cdv A outer s H E) :=
    { prog := rfl, w := rfl, K := rfl, mg := rfl, base := rfl, N := rfl, sc := rfl, fn := fun _ _ => rfl, room := hr, calm := rfl, own := passes_of rfl, stk := rfl, fr := rfl }
  refine ⟨_, hb H _ (fun cls d _ H' => E cls d H') AA (takes_of rfl rfl rfl rfl), ⟨rhoV m ds, start_er h2 h1 hm rfl rfl, ?_⟩⟩
  have same : ∀ {ρ' σ' H'}, ER K ⟨P, w, K, mg, base, N, defScope st, fun _ => true, k, H, []⟩ ρ' σ' H' → Same H H' := fun {ρ' σ' H'} R a o e => R.old a o e (fun p hp => by cases hp)
  unfold runF at h3
  cases hf : f (rhoV m ds) with
  | stuck => rw [hf] at h3; exact h3.elim
  | exc c ρ1 => rw [hf] at h3; exact fun cls σ' H' _ R hm => h3 cls H' (same R) hm
  | ok r =>
    rw [hf] at h3
    cases r with
    | next ρ' => exact fun σ' H' _ R => h3 H' .non (same R) rfl
    | ret z ρ' => exact fun σ' H' y _ R b => h3 H' y (same R) (br_rs rfl b)
    | brk ρ' => exact h3.elim
    | cnt ρ' => exact h3.elim
/-- a def that may be called by its name -/
structure Cal (g : Cf) (x : Str) (n : Nat) (F : Fn) : Prop where
  ex : ∃ (f : Addr) (fd : FuncData) (ps : List Str), FnOk g.prog g.w g.K g.mg g.base (L2.CX g.prog g.w) g.k f fd ps (spF g.K g.mg n F) ∧ g.mg x = some (.ref f) ∧ PySem.W.keepIn g.K (.ref f) = true ∧ Binds g.K fd ps []
def atR (ρ : Rho) : Out S → Out (S × Rho)
  | .ok s => .ok (s, ρ)
  | .exc c _ => .exc c ρ
  | .stuck => .stuck
def eCall (l : List Nat) (n : Nat) (F : Fn) (fa : Ax) : Ex := fun ρ => aF l fa ρ >>= fun p => if p.1.length = n then atR p.2 (F p.1) else .stuck
section
variable {g : Cf} {X : Cx} {e a b c : Expr} {es : List Expr} {pos : Pos} {K : PySem.W.Frag} {W : WX}
theorem e_call {x : Str} {p : Pos} {n : Nat} {F : Fn} {fa : Ax} (hc : Cal g x n F) (ha : AOk g (e :: es) fa) (hg : Glo g x := by rfl) (hdb : (x == ("__debug__" : Str)) = false := by decide)
    (he : ∀ env, starEach (e :: es) env = (false, eval e env) :: starEach es env := by intro _; rfl) (hpl : ∀ env, (backTo pos (starEach es env)).any (·.1) = false := by intro _; rfl) : EOk g (.Call (.Name x p) (e :: es) [] pos) (eCall g.ios n F fa) := fun X W A tk => by
  obtain ⟨f, fd, ps, h1, h2, h3, h4⟩ := hc.ex
  have h1' : FnOk X.prog X.w X.K X.mg X.base (L2.CX X.prog X.w) g.k f fd ps (spF X.K X.mg n F) := by rw [A.prog, A.w, A.K, A.mg, A.base]; exact h1
  refine PE.imp (pe_callS h1' A.room (hg.gl A) (by rw [A.mg]; exact h2) (by rw [A.K]; exact h3) (by rw [A.K]; exact h4) (fun σ => passAt tk σ) (ha.f A tk) hdb (he _) (hpl _)) fun σ H Q ⟨ρ, R, q⟩ => ?_
  refine tAF_step R q fun ds ρ1 vs H1 R1 E1 im q1 => ?_
  split at q1
  case isFalse => exact q1.elim
  rename_i hl
  refine ⟨ds, hl, im, ?_⟩
  cases hF : F ds with
  | stuck => rw [hF] at q1; exact q1.elim
  | exc c ρ' => rw [hF] at q1; exact fun cls H' sm hm => q1 cls H' (R1.same sm) (Ext.of_same sm) (by rw [← A.mg]; exact hm)
  | ok s => rw [hF] at q1; exact fun H' y sm rs => q1 H' (Ext.of_same sm) (R1.same sm) y (rs.sr R1)
/-! ### raise -/
/-- an exception class of the program's own -/
structure Exc (g : Cf) (c : Str) : Prop where
  ex : ∃ C : Addr, PySem.W.excIn g.K C [.type "ValueError", .type "Exception", .type "BaseException", .type "object"] "ValueError.__new__" = true ∧ g.mg c = some (.ref C) ∧ PySem.W.keepIn g.K (.ref C) = true ∧ PySem.W.subIn g.K (.ref C) (.type "BaseException") = some true ∧ PySem.W.typeIn g.K (.ref C) = some (.type "type")
def sRaise (c : Str) : Sx := fun ρ => .exc c ρ
theorem s_raise {x m : Str} {j : Nat} {p p2 p3 : Pos} (h : Exc g x) (hg : Glo g x := by rfl) (hdb : (x == ("__debug__" : Str)) = false := by decide) : SOk g (.Raise (some (.Call (.Name x p) [.Constant (.str m) j p2] [] p3)) none pos) (sRaise x) := fun X W A tk => by
  obtain ⟨C, h1, h2, h3, h4, h5⟩ := h.ex
  rw [← A.K] at h1 h3 h4 h5
  refine PS.imp (ps_raise A.calm tk (pmk_own PySem.F.excBase_ValueError h1 (by rw [A.mg]; exact h2) h3 (raises_own h4 h5) (hg.gl A.toAt) hdb)) fun D σ H ⟨ρ, R, q⟩ => ?_
  exact q _ σ H (Ext.refl H) R h2
/-! ### try -/
/-- the class x in an except clause: which classes it catches -/
structure Cat (g : Cf) (x : Str) (tab : List (Str × Bool)) : Prop where
  ex : ∃ cv : Value, ((x == ("__debug__" : Str)) = false ∧ (g.mg x = some cv ∨ (g.mg x = none ∧ bootBuiltins x = some cv ∧ x ≠ "__name__"))) ∧ ∀ c b, (c, b) ∈ tab → ∃ C, g.mg c = some (.ref C) ∧ PySem.W.exmOne g.K (.ref C) cv = some b
/-- isinstance(an exception, x): for which classes -/
structure IsE (g : Cf) (x : Str) (tab : List (Str × Bool)) : Prop where
  ex : ∃ (v : V) (cv : Value), RelV v cv ∧ (∀ u, RelV v u → u = cv) ∧ (x == ("__debug__" : Str)) = false ∧ (g.mg x = some cv ∨ (g.mg x = none ∧ bootBuiltins x = some cv ∧ x ≠ "__name__")) ∧ ∀ c b, (c, b) ∈ tab → ∃ C, g.mg c = some (.ref C) ∧ ExcC g.K C ∧ PySem.W.kitOne g.K (.ref C) cv = some b
abbrev Hx := Str → Option D
def look (tab : List (Str × Bool)) (c : Str) : Option Bool := (tab.find? fun p => p.1 = c).map (·.2)
theorem look_mem {tab : List (Str × Bool)} {c : Str} {b : Bool} (h : look tab c = some b) : (c, b) ∈ tab := by
  unfold look at h
  cases hf : tab.find? (fun p => p.1 = c) with
  | none => rw [hf] at h; cases h
  | some p =>
    rw [hf] at h
    cases h
    have h1 := List.find?_some hf
    have h2 := List.mem_of_find?_eq_some hf
    obtain ⟨p1, p2⟩ := p
    have h3 : p1 = c := by simpa using h1
    rw [← h3]
    exact h2
def HOk (g : Cf) (n : Str) (i : Nat) (e : Expr) (h : Hx) : Prop := ∀ (X : Cx), At g X → ∀ (a : Addr) (oe : Obj) (cls : Value) (pn : List (Addr × Obj)) (c : Str), Zc cls none oe → (∃ vs, oe.data = .fields vs) → g.mg c = some cls →
  PE (X.suite a ((a, oe) :: pn)) e (fun σ H Q => (n = "" ∨ σ[i]? = some (some (.ref a))) ∧ ∃ d, h c = some d ∧ ∀ x H', Same H H' → Imm X.K H' d x → Q x H')
def hC (d : D) : Hx := fun _ => some d
theorem h_bl {n : Str} {i : Nat} {k : Bool} {j : Nat} : HOk g n i (.Constant (.bool k) j pos) (hC (.bl k)) := fun X A a oe cls pn c hz hf hm => PE.imp pe_bl fun σ H Q ⟨_, d, h, q⟩ => by cases h; exact q _ H (Same.refl H) rfl
theorem h_str {n : Str} {i : Nat} {k : Str} {j : Nat} : HOk g n i (.Constant (.str k) j pos) (hC (.str k)) := fun X A a oe cls pn c hz hf hm => PE.imp pe_str fun σ H Q ⟨_, d, h, q⟩ => by cases h; exact q _ H (Same.refl H) rfl
theorem h_non {n : Str} {i : Nat} {j : Nat} : HOk g n i (.Constant .none j pos) (hC .non) := fun X A a oe cls pn c hz hf hm => PE.imp pe_non fun σ H Q ⟨_, d, h, q⟩ => by cases h; exact q _ H (Same.refl H) rfl
def hIs (tab : List (Str × Bool)) : Hx := fun c => (look tab c).map .bl
theorem h_isi {n x : Str} {i : Nat} {p p1 p2 : Pos} {tab : List (Str × Bool)} (h : IsE g x tab) (hN : g.N[i]? = some n) (hn : n ≠ "" := by decide) (hmi : g.mg "isinstance" = none) (hg : Glo g "isinstance" := by rfl) (hgx : Glo g x := by rfl) (hv : Vis g.sc n := by first | exact Or.inl rfl | exact Or.inr (Or.inl rfl) | exact Or.inr (Or.inr rfl)) (hd : (n == ("__debug__" : Str)) = false := by decide) (hcd : (n == ("__classdict__" : Str)) = false := by decide) :
    HOk g n i (.Call (.Name "isinstance" p) [.Name n p1, .Name x p2] [] pos) (hIs tab) := fun X A a oe cls pn c hz hf hm => by
  obtain ⟨v, cv, rv, ru, hdb, hx, ht⟩ := h.ex
  have hN' : (X.suite a ((a, oe) :: pn)).N[i]? = some n := by show X.N[i]? = _; rw [A.N]; exact hN
  have hv' : Vis (X.suite a ((a, oe) :: pn)).env.scope n := by show Vis X.env.scope n; unfold Vis; rw [A.sc]; exact hv
  have hGx : Gl X x := hgx.gl A
  have hGi : Gl X "isinstance" := hg.gl A
  have pn1 : PE (X.suite a ((a, oe) :: pn)) (.Name n p1) (tVar i) := pe_var hN' hv' hd hcd
  have px : PE (X.suite a ((a, oe) :: pn)) (.Name x p2) (tC v) := by
    rcases hx with hx | ⟨hx1, hx2, hx3⟩
    · exact pe_glob (X := X.suite a ((a, oe) :: pn)) hGx (by show X.mg x = _; rw [A.mg]; exact hx) rv hdb
    · exact pe_bltn (X := X.suite a ((a, oe) :: pn)) hGx (by show X.mg x = _; rw [A.mg]; exact hx1) hx2 rv hx3 hdb
  refine ⟨fun pins s σ H Q I ⟨hs, d, hh, q⟩ => ?_⟩
  unfold hIs at hh
  cases hl : look tab c with
  | none => rw [hl] at hh; cases hh
  | some b =>
    rw [hl] at hh
    cases hh
    obtain ⟨C, hm2, hE, hk⟩ := ht c b (look_mem hl)
    rw [hm] at hm2
    cases hm2
    have hE' : ExcC X.K C := by rw [A.K]; exact hE
    have hk' : PySem.W.kitOne X.K (.ref C) cv = some b := by rw [A.K]; exact hk
    refine (pe_callB (call_isE hE' hz hf) hGi (by show X.mg _ = _; rw [A.mg]; exact hmi) (by decide +kernel) (pa_cons pn1 (pa_cons px pa_nil)) (by decide) (by decide)).run pins s σ H Q I ?_
    refine ⟨.ref a, hs.resolve_left hn, v, cv, b, rfl, ru, hk', q _ H (Same.refl H) rfl⟩
def hAnd (h1 h2 : Hx) : Hx := fun c => match h1 c with
  | some (.bl true) => h2 c
  | some (.bl false) => some (.bl false)
  | _ => none
def hNot (h1 : Hx) : Hx := fun c => match h1 c with
  | some (.bl k) => some (.bl (!k))
  | _ => none
theorem h_one {n : Str} {i : Nat} {op : BoolOp} {h : Hx} (h1 : HOk g n i a h) : HOk g n i (.BoolOp op [a] pos) h := fun X A a oe cls pn c hz hf hm => pe_one (h1 X A a oe cls pn c hz hf hm)
theorem h_and {n : Str} {i : Nat} {rest : List Expr} {h h' : Hx} (h1 : HOk g n i a h) (h2 : HOk g n i (.BoolOp .And (b :: rest) pos) h') : HOk g n i (.BoolOp .And (a :: b :: rest) pos) (hAnd h h') := fun X A ad oe cls pn c hz hf hm => by
  refine PE.imp (pe_and (h1 X A ad oe cls pn c hz hf hm) (h2 X A ad oe cls pn c hz hf hm)) fun σ H Q ⟨hs, d, hh, q⟩ => ?_
  unfold hAnd at hh
  split at hh
  · rename_i k1
    refine ⟨hs, _, k1, fun x H' sm im => ⟨true, im, ?_⟩⟩
    exact iteT ⟨hs, d, hh, fun y H2 sm2 im2 => q y H2 (sm.trans sm2) im2⟩
  · rename_i k1
    cases hh
    exact ⟨hs, _, k1, fun x H' sm im => ⟨false, im, iteF (q _ H' sm rfl)⟩⟩
  · cases hh
theorem h_not {n : Str} {i : Nat} {h : Hx} (h1 : HOk g n i a h) : HOk g n i (.UnaryOp .Not a pos) (hNot h) := fun X A ad oe cls pn c hz hf hm => by
  refine PE.imp (pe_not (h1 X A ad oe cls pn c hz hf hm)) fun σ H Q ⟨hs, d, hh, q⟩ => ?_
  unfold hNot at hh
  split at hh
  · rename_i k k1
    cases hh
    exact ⟨hs, _, k1, fun x H' sm im => ⟨k, im, q _ H' sm rfl⟩⟩
  · cases hh
def sTry (need : Nat) (tab : List (Str × Bool)) (h : Hx) (f : Sx) : Sx := fun ρ => match f ρ with
  | .ok r => .ok r
  | .stuck => .stuck
  | .exc c ρ' => match look tab c with
    | some true => (match h c with
      | some d => if need ≤ ρ'.length then .ok (.ret (.v d) ρ') else .stuck
      | none => .stuck)
    | some false => .exc c ρ'
    | none => .stuck
theorem AtS.tr (A : AtS g X) {pn : List (Addr × Obj)} {xe : Value → Shared → Prop} (p : PassesOwn (model X.prog X.w) X.A X.env xe) : AtS g (X.tr pn xe) where
  prog := A.prog
  w := A.w
  K := A.K
  mg := A.mg
  base := A.base
  N := A.N
  sc := A.sc
  fn := A.fn
  room := A.room
  calm := A.calm
  own := p
  stk := A.stk
  fr := A.fr
/-- what the suite wishes -/
def tH (g : Cf) (K : PySem.W.Frag) (n : Str) (i : Nat) (h : Hx) (a : Addr) (cls : Value) (d : Option Addr) : TS := fun D σ H => d = none ∧ ∃ c dv, g.mg c = some cls ∧ (n = "" ∨ σ[i]? = some (some (.ref a))) ∧ h c = some dv ∧ ∀ x H', Same H H' → Imm K H' dv x → D.rt x H'
theorem suite_ok {n : Str} {i : Nat} {h : Hx} {p1 : Pos} (A : At g X) (hh : HOk g n i e h) (a : Addr) (oe : Obj) (cls : Value) (d : Option Addr) (pn : List (Addr × Obj)) (hz : Zc cls d oe) (hf : ∃ vs, oe.data = .fields vs) : PSs (X.suite a ((a, oe) :: pn)) [.Return (some e) p1] (tH g X.K n i h a cls d) := by
  refine pss_one ⟨fun pins s σ H D I ⟨hd, c, dv, hm, hs, hc, q⟩ => ?_⟩
  subst hd
  exact (ps_ret (hh X A a oe cls pn c hz hf hm)).run pins s σ H D I ⟨hs, dv, hc, q⟩
theorem try_read {need : Nat} {tab : List (Str × Bool)} {h : Hx} {f : Sx} {D : Ends} {σ : L2.St} {H : Hp} {W' : WX} (t : tS K g (sTry need tab h f) W D σ H)
    (hw : ∀ c ρ' cls σ' H', Ext H H' → ER K g ρ' σ' H' → g.mg c = some cls → ∀ b, look tab c = some b → (b = true → need ≤ ρ'.length ∧ ∃ d, h c = some d ∧ ∀ x H2, Same H' H2 → Imm K H2 d x → D.rt x H2) → (b = false → W cls none σ' H') → W' cls none σ' H') : tS K g f W' D σ H := by
  obtain ⟨ρ, R, q⟩ := t
  refine ⟨ρ, R, ?_⟩
  unfold sTry at q
  cases hf : f ρ with
  | stuck => rw [hf] at q; exact q.elim
  | ok r =>
    rw [hf] at q
    have q : PsS K g H W D (.ok r) := q
    cases r <;> exact q
  | exc c ρ' =>
    rw [hf] at q
    dsimp only at q
    intro cls σ' H' E' R' hm
    cases hl : look tab c with
    | none => rw [hl] at q; exact q.elim
    | some b =>
      rw [hl] at q
      refine hw c ρ' cls σ' H' E' R' hm b hl (fun hb => ?_) (fun hb => ?_)
      · subst hb
        dsimp only at q
        cases hc : h c with
        | none => rw [hc] at q; exact q.elim
        | some d =>
          rw [hc] at q
          dsimp only at q
          split at q
          case isFalse => exact q.elim
          rename_i hlen
          exact ⟨hlen, d, rfl, fun x H2 sm im => q σ' H2 x (E'.trans (Ext.of_same sm)) (R'.same sm) im⟩
      · subst hb
        exact q cls σ' H' E' R' hm
theorem s_try {body : List Stmt} {x n : Str} {i : Nat} {np p1 pos' : Pos} {tab : List (Str × Bool)} {h : Hx} {f : Sx} (hx : Cat g x tab) (hb : SsOk g body f) (hh : HOk g n i e h) (hN : g.N[i]? = some n) (nd : g.N.Nodup) (hloc : g.sc.names.lookup n = some .local) (hgx : Glo g x := by rfl) :
    SOk g (.Try body [.ExceptHandler (some (.Name x np)) (some n) [.Return (some e) p1] pos'] [] [] pos) (sTry (i + 1) tab h f) := fun X W A tk => by
  obtain ⟨cv, ⟨hdb, hx1⟩, ht⟩ := hx.ex
  have hi : X.N[i]? = some n := by rw [A.N]; exact hN
  have key := ps_try_as (pos := pos) (pos' := pos') (np := np) (x := x) (c := cv) (body := body) (tb := fun W => tS X.K g f W) (ts := tH g X.K n i h) A.stk A.fr (by rw [A.N]; exact nd) hi (by show X.env.scope.names.lookup n = _; rw [A.sc]; exact hloc) ⟨hgx.gl A.toAt, hdb, by rw [A.mg]; exact hx1⟩ tk
    (fun W pn xe tk' p => hb _ W (A.tr p) tk') (fun a oe cls d pn hz hf => suite_ok (p1 := p1) A.toAt hh a oe cls d pn hz hf)
  refine ⟨fun pins s σ H D I t => ?_⟩
  refine key.run pins s σ H D I (try_read t fun c ρ' cls σ' H' E' R' hm b hl hy hn => ?_)
  obtain ⟨C, hm2, hk⟩ := ht c b (look_mem hl)
  rw [hm] at hm2
  cases hm2
  refine ⟨b, by rw [A.K]; exact hk, fun hb a ha => ?_, hn⟩
  obtain ⟨hlen, d, hd, q⟩ := hy hb
  refine ⟨rfl, c, d, hm, .inr ?_, hd, q⟩
  exact List.getElem?_set_self (by rw [← R'.len]; omega)
theorem s_tryN {body : List Stmt} {x : Str} {np p1 pos' : Pos} {tab : List (Str × Bool)} {h : Hx} {f : Sx} (hx : Cat g x tab) (hb : SsOk g body f) (hh : HOk g "" 0 e h) (hgx : Glo g x := by rfl) :
    SOk g (.Try body [.ExceptHandler (some (.Name x np)) none [.Return (some e) p1] pos'] [] [] pos) (sTry 0 tab h f) := fun X W A tk => by
  obtain ⟨cv, ⟨hdb, hx1⟩, ht⟩ := hx.ex
  have key := ps_try_only (pos := pos) (pos' := pos') (np := np) (x := x) (c := cv) (body := body) (tb := fun W => tS X.K g f W) (ts := tH g X.K "" 0 h) A.stk A.fr ⟨hgx.gl A.toAt, hdb, by rw [A.mg]; exact hx1⟩ tk
    (fun W pn xe tk' p => hb _ W (A.tr p) tk') (fun a oe cls d pn hz hf => suite_ok (p1 := p1) A.toAt hh a oe cls d pn hz hf)
  refine PS.imp key fun D σ H t => try_read t fun c ρ' cls σ' H' E' R' hm b hl hy hn => ?_
  obtain ⟨C, hm2, hk⟩ := ht c b (look_mem hl)
  rw [hm] at hm2
  cases hm2
  refine ⟨b, by rw [A.K]; exact hk, fun hb a ha => ?_, hn⟩
  obtain ⟨hlen, d, hd, q⟩ := hy hb
  exact ⟨rfl, c, d, hm, .inl rfl, hd, q⟩
end
end PL
namespace PL
open PySem PySem.Spec PyProof.Rows L2
/-- a def, apart from a body's configuration -/
structure Cal0 (P : Program) (w : World) (K : PySem.W.Frag) (mg : Str → Option Value) (base : Heap) (k : Nat) (x : Str) (n : Nat) (F : Fn) : Prop where
  ex : ∃ (f : Addr) (fd : FuncData) (ps : List Str), FnOk P w K mg base (L2.CX P w) k f fd ps (spF K mg n F) ∧ mg x = some (.ref f) ∧ PySem.W.keepIn K (.ref f) = true ∧ Binds K fd ps []
theorem Cal0.cal {P : Program} {w : World} {K : PySem.W.Frag} {mg : Str → Option Value} {base : Heap} {j k : Nat} {x : Str} {n : Nat} {F : Fn} (h : Cal0 P w K mg base j x n F) (hk : j ≤ k) {N : List Str} {sc : Scope} {fn : Str → Bool} {H0 : Hp} {io : List (Nat × Addr)} : Cal ⟨P, w, K, mg, base, N, sc, fn, k, H0, io⟩ x n F := by
  obtain ⟨f, fd, ps, h1, h2⟩ := h.ex
  exact ⟨f, fd, ps, h1.mono hk, h2⟩
/-- what the written part says of a def -/
def FnT (K : PySem.W.Frag) (mg : Str → Option Value) (x : Str) (st : Stmt) (ps : List Str) : Prop := ∃ (f : Addr) (fd : FuncData), mg x = some (.ref f) ∧ L2.Fun K x x st f fd ∧ PySem.W.keepIn K (.ref f) = true ∧ Binds K fd ps []
theorem Cal0.of {P : Program} {w : World} {K : PySem.W.Frag} {mg : Str → Option Value} {base : Heap} {k : Nat} {x : Str} {n m : Nat} {f : Sx} {st : Stmt} {N ps : List Str} (T : FnT K mg x st ps) (S : FnScope N ps (defScope st)) (hn : ps.length = n) (hm : N.length = n + m)
    (hb : ∀ H0, SsOk ⟨P, w, K, mg, base, N, defScope st, fun _ => true, k, H0, []⟩ (defBody st) f) : Cal0 P w K mg base (k + 1) x n (runF m f) := by
  obtain ⟨fa, fd, h1, h2, h3, h4⟩ := T
  exact ⟨fa, fd, ps, fn_ok h2 S hn hm hb, h1, h3, h4⟩
theorem FnT.mk' {K : PySem.W.Frag} {h : Heap} {mg : Str → Option Value} {x : Str} {st : Stmt} {ps : List Str} (X : K.In h) (G : h.Ns mainGlobals mg) {f : Addr} {oc : Value} {od an : Option Addr} {osl : Array (Option Value)} {kV doc pm cdv ct : Value}
    (a : PySem.W.nsIn K mainGlobals x = some (some (.ref f))) (l : K.lookup f = some ⟨oc, od, .func (PySem.W.fnOf x x (defArgs st) (defBody st) (defScope st) .none kV doc pm an cdv ct), osl⟩) (c : PySem.W.codeIn K cdv x = true) (k : PySem.W.keepIn K (.ref f) = true)
    (b : ∀ (kV doc pm : Value) (an : Option Addr) (cdv ct : Value) (us : List Value), us.length = ps.length → bindArgs (PySem.W.fnOf x x (defArgs st) (defBody st) (defScope st) .none kV doc pm an cdv ct) ⟨us, []⟩ = pure (ps.zip us)) : FnT K mg x st ps :=
  ⟨f, _, PySem.W.mg_of X G a, fun_mk l c k, k, (fun_mk l c k).binds b⟩
/-- raw facts, apart from a body's configuration -/
def Con0 (K : PySem.W.Frag) (mg : Str → Option Value) (x : Str) (d : D) : Prop := ∃ u v, mg x = some u ∧ RelV v u ∧ ∀ H, Imm K H d v
def Exc0 (K : PySem.W.Frag) (mg : Str → Option Value) (c : Str) : Prop := ∃ C : Addr, PySem.W.excIn K C [.type "ValueError", .type "Exception", .type "BaseException", .type "object"] "ValueError.__new__" = true ∧ mg c = some (.ref C) ∧ PySem.W.keepIn K (.ref C) = true ∧ PySem.W.subIn K (.ref C) (.type "BaseException") = some true ∧ PySem.W.typeIn K (.ref C) = some (.type "type")
def Cat0 (K : PySem.W.Frag) (mg : Str → Option Value) (x : Str) (tab : List (Str × Bool)) : Prop := ∃ cv : Value, ((x == ("__debug__" : Str)) = false ∧ (mg x = some cv ∨ (mg x = none ∧ bootBuiltins x = some cv ∧ x ≠ "__name__"))) ∧ ∀ c b, (c, b) ∈ tab → ∃ C, mg c = some (.ref C) ∧ PySem.W.exmOne K (.ref C) cv = some b
def IsE0 (K : PySem.W.Frag) (mg : Str → Option Value) (x : Str) (tab : List (Str × Bool)) : Prop := ∃ (v : V) (cv : Value), RelV v cv ∧ (∀ u, RelV v u → u = cv) ∧ (x == ("__debug__" : Str)) = false ∧ (mg x = some cv ∨ (mg x = none ∧ bootBuiltins x = some cv ∧ x ≠ "__name__")) ∧ ∀ c b, (c, b) ∈ tab → ∃ C, mg c = some (.ref C) ∧ ExcC K C ∧ PySem.W.kitOne K (.ref C) cv = some b
section
variable {K : PySem.W.Frag} {h : Heap} {mg : Str → Option Value} {x : Str}
theorem Con0.int (X : K.In h) (G : h.Ns mainGlobals mg) {i : Int} {t : Tok} (a : PySem.W.nsIn K mainGlobals x = some (some (.int i t))) : Con0 K mg x (.int i) := ⟨_, .int i, PySem.W.mg_of X G a, ⟨t, rfl⟩, fun _ => rfl⟩
theorem Con0.str (X : K.In h) (G : h.Ns mainGlobals mg) {i : Str} {t : Tok} (a : PySem.W.nsIn K mainGlobals x = some (some (.str i t))) : Con0 K mg x (.str i) := ⟨_, .str i, PySem.W.mg_of X G a, ⟨t, rfl⟩, fun _ => rfl⟩
theorem Con0.bl (X : K.In h) (G : h.Ns mainGlobals mg) {i : Bool} (a : PySem.W.nsIn K mainGlobals x = some (some (.bool i))) : Con0 K mg x (.bl i) := ⟨_, .bl i, PySem.W.mg_of X G a, rfl, fun _ => rfl⟩
theorem Exc0.mk' (X : K.In h) (G : h.Ns mainGlobals mg) {C : Addr} (a : PySem.W.nsIn K mainGlobals x = some (some (.ref C))) (e : PySem.W.excIn K C [.type "ValueError", .type "Exception", .type "BaseException", .type "object"] "ValueError.__new__" = true) (k : PySem.W.keepIn K (.ref C) = true)
    (s : PySem.W.subIn K (.ref C) (.type "BaseException") = some true) (t : PySem.W.typeIn K (.ref C) = some (.type "type")) : Exc0 K mg x := ⟨C, e, PySem.W.mg_of X G a, k, s, t⟩
theorem Cat0.nil (X : K.In h) (G : h.Ns mainGlobals mg) {C : Addr} (a : PySem.W.nsIn K mainGlobals x = some (some (.ref C))) (hd : (x == ("__debug__" : Str)) = false := by decide) : Cat0 K mg x [] := ⟨_, ⟨hd, .inl (PySem.W.mg_of X G a)⟩, fun _ _ h => by cases h⟩
theorem Cat0.cons (X : K.In h) (G : h.Ns mainGlobals mg) {C D : Addr} {c : Str} {b : Bool} {tab : List (Str × Bool)} (aC : PySem.W.nsIn K mainGlobals x = some (some (.ref C))) (aD : PySem.W.nsIn K mainGlobals c = some (some (.ref D)))
    (h1 : PySem.W.subIn K (.ref C) (.type "BaseException") = some true) (h2 : PySem.W.hasDictIn K C = true) (h3 : PySem.W.typeIn K (.ref C) = some (.type "type")) (h4 : PySem.W.subIn K (.ref D) (.ref C) = some b) (r : Cat0 K mg x tab) : Cat0 K mg x ((c, b) :: tab) := by
  obtain ⟨cv, ⟨r1, r2⟩, r3⟩ := r
  have hx := PySem.W.mg_of X G aC
  have ecv : cv = .ref C := by
    rcases r2 with r2 | ⟨r2, _⟩
    · rw [hx] at r2; exact (Option.some.inj r2).symm
    · rw [hx] at r2; cases r2
  subst ecv
  refine ⟨_, ⟨r1, .inl hx⟩, fun c' b' hm => ?_⟩
  rcases List.mem_cons.mp hm with e | hm
  · cases e
    exact ⟨D, PySem.W.mg_of X G aD, PySem.W.exm_ref h1 h2 h3 h4⟩
  · exact r3 c' b' hm
theorem IsE0.nil (X : K.In h) (G : h.Ns mainGlobals mg) {C : Addr} (a : PySem.W.nsIn K mainGlobals x = some (some (.ref C))) (hd : (x == ("__debug__" : Str)) = false := by decide) : IsE0 K mg x [] := ⟨.ref C, .ref C, rfl, fun _ r => r, hd, .inl (PySem.W.mg_of X G a), fun _ _ h => by cases h⟩
theorem IsE0.nilB (X : K.In h) (G : h.Ns mainGlobals mg) {t : String} (a : PySem.W.nsIn K mainGlobals x = some none) (hb : bootBuiltins x = some (.type t)) (hn : x ≠ "__name__" := by decide) (hd : (x == ("__debug__" : Str)) = false := by decide) : IsE0 K mg x [] := ⟨.ty t, .type t, rfl, fun _ r => r, hd, .inr ⟨PySem.W.mg_none_of X G a, hb, hn⟩, fun _ _ h => by cases h⟩
theorem IsE0.cons (X : K.In h) (G : h.Ns mainGlobals mg) {C D : Addr} {c : Str} {b : Bool} {tab : List (Str × Bool)} (aC : PySem.W.nsIn K mainGlobals x = some (some (.ref C))) (aD : PySem.W.nsIn K mainGlobals c = some (some (.ref D)))
    (e : ExcC K D) (h4 : PySem.W.kitOne K (.ref D) (.ref C) = some b) (r : IsE0 K mg x tab) : IsE0 K mg x ((c, b) :: tab) := by
  obtain ⟨v, cv, r1, r2, r3, r4, r5⟩ := r
  have hx := PySem.W.mg_of X G aC
  have ecv : cv = .ref C := by
    rcases r4 with r4 | ⟨r4, _⟩
    · rw [hx] at r4; exact (Option.some.inj r4).symm
    · rw [hx] at r4; cases r4
  subst ecv
  refine ⟨v, _, r1, r2, r3, .inl hx, fun c' b' hm => ?_⟩
  rcases List.mem_cons.mp hm with e' | hm
  · cases e'
    exact ⟨D, PySem.W.mg_of X G aD, e, h4⟩
  · exact r5 c' b' hm
theorem IsE0.consB (X : K.In h) (G : h.Ns mainGlobals mg) {t : String} {D : Addr} {c : Str} {b : Bool} {tab : List (Str × Bool)} (a : PySem.W.nsIn K mainGlobals x = some none) (hb : bootBuiltins x = some (.type t)) (aD : PySem.W.nsIn K mainGlobals c = some (some (.ref D)))
    (e : ExcC K D) (h4 : PySem.W.kitOne K (.ref D) (.type t) = some b) (r : IsE0 K mg x tab) : IsE0 K mg x ((c, b) :: tab) := by
  obtain ⟨v, cv, r1, r2, r3, r4, r5⟩ := r
  have hx := PySem.W.mg_none_of X G a
  rcases r4 with r4 | ⟨r4, r4b, r4n⟩
  · rw [hx] at r4; cases r4
  · have ecv : cv = .type t := by rw [hb] at r4b; exact (Option.some.inj r4b).symm
    subst ecv
    refine ⟨v, _, r1, r2, r3, .inr ⟨hx, hb, r4n⟩, fun c' b' hm => ?_⟩
    rcases List.mem_cons.mp hm with e' | hm
    · cases e'
      exact ⟨D, PySem.W.mg_of X G aD, e, h4⟩
    · exact r5 c' b' hm
end
/-! ### the law's own head -/
def spL (K : PySem.W.Frag) : Sp := fun vs H Q _ => ∃ (a : Addr) (ns : List Int), vs = [.ref a] ∧ ScrL K H a (ns.map V.int) ∧ ns.length ≤ 63 ∧ ∀ H', Q (.bl true) H'
theorem spL_of {K : PySem.W.Frag} {H : Hp} {a : Addr} {ns : List Int} (hl : ns.length ≤ 63) (hO : L2.Only H) (hS : SqL K H a (ns.map V.int)) : spL K [.ref a] H (fun v _ => v = .bl true) fun _ _ _ => False := by
  refine ⟨a, ns, rfl, ?_, hl, fun _ => rfl⟩
  rcases hS with (h | h) | h
  · rcases hO a with z | ⟨o, xs, z⟩
    · rw [h] at z; cases z
    · rw [h] at z; cases z
  · exact .inl h
  · exact .inr h
theorem fnL {P : Program} {w : World} {K : PySem.W.Frag} {mg : Str → Option Value} {base : Heap} {CX : CXT} {k : Nat} {f : Addr} {fd : FuncData} {ps : List Str} {F : Fn} (h : FnOk P w K mg base CX k f fd ps (spF K mg 1 F)) (hF : ∀ ns : List Int, ns.length ≤ 63 → F [.scr ns] = .ok (.v (.bl true))) : FnOk P w K mg base CX k f fd ps (spL K) :=
  h.imp fun vs H Q E ⟨a, ns, e, hs, hl, q⟩ => by
    subst e
    refine ⟨[.scr ns], rfl, ⟨_, _, rfl, ⟨a, rfl, hs⟩, rfl⟩, ?_⟩
    rw [hF ns hl]
    exact fun H' x _ r => by cases (show _ = _ from r); exact q H'
theorem noCX {P : Program} {w : World} {H : Hp} {s : Shared} {e : Value} {s' : Shared} (h : L2.CX P w [] H s (fun _ _ _ => False) e s') : False := by
  obtain ⟨_, _, _, _, _, _, _, _, _, _, _, _, z⟩ := h
  exact z
theorem Cal0.none_ {P : Program} {w : World} {K : PySem.W.Frag} {mg : Str → Option Value} {base : Heap} {k : Nat} {x : Str} {n : Nat} {st : Stmt} {ps : List Str} (T : FnT K mg x st ps) : Cal0 P w K mg base k x n (fun _ => .stuck) := by
  obtain ⟨fa, fd, h1, h2, h3, h4⟩ := T
  exact ⟨fa, fd, ps, ⟨fun vs H Q E h => by obtain ⟨_, _, _, z⟩ := h; exact z.elim, fun A outer s H args us vs Q E _ _ _ _ h => by obtain ⟨_, _, _, z⟩ := h; exact z.elim⟩, h1, h3, h4⟩
end PL

namespace PL
open PySem PySem.Spec PyProof.Rows L2
/-! ### own objects change -/
def ownD (ρ : Rho) (i : Nat) : Option D := match ρ[i]? with
  | some (some (.o d)) => some d
  | _ => none
theorem ownD_is {ρ : Rho} {i : Nat} {d : D} (h : ownD ρ i = some d) : ρ[i]? = some (some (.o d)) := by
  unfold ownD at h
  split at h
  · rename_i d' h'; cases h; exact h'
  · cases h
def putO (ρ : Rho) (i : Nat) (d : D) : Rho := ρ.set i (some (.o d))
theorem ER.put {K : PySem.W.Frag} {g : Cf} {ρ : Rho} {σ : L2.St} {H H' : Hp} {i : Nat} {d d' : D} {a : Addr} (R : ER K g ρ σ H) (hi : ρ[i]? = some (some (.o d))) (ha : σ[i]? = some (some (.ref a))) (e : ∀ b, b ≠ a → H' b = H b) (x : Ext H H') (o : OwnAt K H' a d') : ER K g (putO ρ i d') σ H' := by
  have hlt : i < ρ.length := by
    rcases Nat.lt_or_ge i ρ.length with z | z
    · exact z
    · rw [List.getElem?_eq_none z] at hi; cases hi
  have gρ : ∀ j, (putO ρ i d')[j]? = if j = i then some (some (.o d')) else ρ[j]? := fun j => by
    unfold putO
    by_cases hj : j = i
    · subst hj; rw [if_pos rfl, List.getElem?_set_self hlt]
    · rw [if_neg hj, List.getElem?_set_ne (Ne.symm hj)]
  have un : ∀ {j : Nat} {dj : D}, (putO ρ i d')[j]? = some (some (S.o dj)) → ∃ dk : D, ρ[j]? = some (some (S.o dk)) := fun {j dj} h => by
    rw [gρ] at h
    by_cases hj : j = i
    · subst hj; exact ⟨d, hi⟩
    · rw [if_neg hj] at h; exact ⟨_, h⟩
  refine ⟨by unfold putO; rw [List.length_set]; exact R.len, fun j dj h => ?_, fun j dj h => ?_, fun j m h => ?_, fun j m dj dm b h1 h2 h3 h4 => ?_, fun b ob h q => ?_, fun j dj b h1 h2 => ?_, fun p hp => ?_⟩
  · rw [gρ] at h
    by_cases hj : j = i
    · rw [if_pos hj] at h; cases h
    · rw [if_neg hj] at h
      obtain ⟨y, h1, h2⟩ := R.val j dj h
      exact ⟨y, h1, Imm.ext x _ _ h2⟩
  · rw [gρ] at h
    by_cases hj : j = i
    · rw [if_pos hj] at h; cases h; subst hj; exact ⟨a, ha, o⟩
    · rw [if_neg hj] at h
      obtain ⟨b, h1, h2⟩ := R.own j dj h
      have hb : b ≠ a := fun z => hj (R.sep j i dj d a h hi (z ▸ h1) ha)
      exact ⟨b, h1, h2.ext x (e b hb)⟩
  · rw [gρ] at h
    by_cases hj : j = i
    · rw [if_pos hj] at h; cases h
    · rw [if_neg hj] at h; exact R.bor j m h
  · obtain ⟨k1, h1'⟩ := un h1
    obtain ⟨k2, h2'⟩ := un h2
    exact R.sep j m k1 k2 b h1' h2' h3 h4
  · have hb : b ≠ a := fun z => by
      subst z
      rcases R.new i d b hi ha with h0 | h0
      · rw [h0] at h; cases h
      · exact q _ h0 rfl
    rw [e b hb]
    exact R.old b ob h q
  · obtain ⟨k1, h1'⟩ := un h1
    exact R.new j k1 b h1' h2
  · obtain ⟨h1, dj, h2⟩ := R.io p hp
    refine ⟨h1, ?_⟩
    rw [gρ]
    by_cases hj : p.1 = i
    · rw [if_pos hj]; exact ⟨_, rfl⟩
    · rw [if_neg hj]; exact ⟨_, h2⟩
/-- the own list is overwritten -/
theorem lst_upd {K : PySem.W.Frag} {H : Hp} {a : Addr} {xs ys : List V} {es : List D} (h : H a = some (.lst xs)) (im : ImmL K H es ys) : Ext H (upd H a (.lst ys)) ∧ (∀ b, b ≠ a → upd H a (.lst ys) b = H b) ∧ OwnAt K (upd H a (.lst ys)) a (.lst es) := by
  have x : Ext H (upd H a (.lst ys)) := mut_ext h True.intro fun b hb => upd_ne hb
  exact ⟨x, fun b hb => upd_ne hb, ys, upd_same, ImmL.ext x _ _ im⟩
section
variable {g : Cf} {X : Cx} {e a b c ie : Expr} {es : List Expr} {pos : Pos} {K : PySem.W.Frag} {W : WX}
/-- a method of an own list: its result, the list behind it -/
def MlR (X : Cx) (r : V → List V → Hp → VK → Prop) (od : List D → List D → Option (D × List D)) : Prop :=
  ∀ (a : Addr) (vs xs : List V) (H : Hp) (Q : VK) (ls ds ls' : List D) (z : D), H a = some (.lst vs) → ImmL X.K H ls vs → ImmL X.K H ds xs → od ls ds = some (z, ls') →
    (∀ y H', Ext H H' → (∀ b, b ≠ a → H' b = H b) → OwnAt X.K H' a (.lst ls') → Imm X.K H' z y → Q y H') → r (.ref a) xs H Q
def eMl (l : List Nat) (i : Nat) (od : List D → List D → Option (D × List D)) (fa : Ax) : Ex := fun ρ => match ownD ρ i with
  | some (.lst _) => aF l fa ρ >>= fun p => (match ownD p.2 i with
    | some (.lst ls) => liftO (od ls p.1) >>= fun q => .ok (.v q.1, putO p.2 i (.lst q.2))
    | _ => .stuck)
  | _ => .stuck
theorem tyL_of {K : PySem.W.Frag} {H : Hp} {a : Addr} {ds : List D} (o : OwnAt K H a (.lst ds)) : tyV K "list" (.ref a) H := by
  obtain ⟨vs, h, _⟩ := o
  exact .inl ⟨rfl, vs, SqL.of h⟩
theorem readMl {r : V → List V → Hp → VK → Prop} {od : List D → List D → Option (D × List D)} {i : Nat} {fa : Ax} {σ : L2.St} {H : Hp} {Q : VK} (h : MlR X r od) (t : tE X.K g (eMl g.ios i od fa) W σ H Q) :
    ∃ x, σ[i]? = some (some x) ∧ tyV X.K "list" x H ∧ tAF X.K g fa W σ H fun xs H2 => r x xs H2 Q := by
  obtain ⟨ρ, R, q⟩ := t
  unfold eMl at q
  split at q
  case h_2 => exact q.elim
  rename_i ls0 ho
  obtain ⟨a, ha, o⟩ := R.own i _ (ownD_is ho)
  refine ⟨_, ha, tyL_of o, ?_⟩
  refine tAF_step R q fun ds ρ1 xs H1 R1 E1 im q1 => ?_
  split at q1
  case h_2 => exact q1.elim
  rename_i ls ho1
  obtain ⟨p, hp, q2⟩ := q1.opt
  have hi := ownD_is ho1
  obtain ⟨a', ha', o'⟩ := R1.own i _ hi
  rw [ha] at ha'
  cases ha'
  obtain ⟨vs, hv, iv⟩ := o'
  refine h a vs xs H1 Q ls ds p.2 p.1 hv iv im hp fun y H' E2 k o2 iy => ?_
  exact q2 H' E2 (R1.put hi ha k E2 o2) y iy
theorem e_ml {x name : Str} {id : String} {i : Nat} {p apos : Pos} {r : V → List V → Hp → VK → Prop} {od : List D → List D → Option (D × List D)} {fa : Ax} (slot : PySem.Slot "list" name id) (hty : typeOf (.builtin id) = pure (.type "method_descriptor"))
    (hr : ∀ X, At g X → MtR X id r ∧ MlR X r od) (ha : AOk g (e :: es) fa) (hN : g.N[i]? = some x := by rfl) (hv : Vis g.sc x := by first | exact Or.inl rfl | exact Or.inr (Or.inl rfl) | exact Or.inr (Or.inr rfl)) (hd : (x == ("__debug__" : Str)) = false := by decide) (hcd : (x == ("__classdict__" : Str)) = false := by decide)
    (hbase : ∀ env, attributeBase (.Name x p) name env (eval (.Name x p) env) = eval (.Name x p) env := by intro _; rfl)
    (hfew : ∀ env, ((backTo pos (starEach (e :: es) env)).all (fun x => !x.1) && (backToKw pos (keywordEach [] env)).all (fun x => x.1.isSome)
      && decide ((e :: es).length + ([] : List Keyword).length + (if ([] : List Keyword).isEmpty then 0 else 1) < 30)) = true := by intro _; rfl)
    (hline : (apos.endLine == pos.line) = true := by rfl) (hs : ∀ env, starEach (e :: es) env = (false, eval e env) :: starEach es env := by intro _; rfl) (hpl : ∀ env, (backTo pos (starEach es env)).any (·.1) = false := by intro _; rfl) :
    EOk g (.Call (.Attribute (.Name x p) name apos) (e :: es) [] pos) (eMl g.ios i od fa) := fun X W A tk => by
  obtain ⟨h1, h2⟩ := hr X A
  refine PE.imp (pe_bm PySem.F.plainAttrs_list slot hty h1 (pe_var (i := i) (by rw [A.N]; exact hN) (by unfold Vis; rw [A.sc]; exact hv) hd hcd) (ha.f A tk) (hbase _) (hfew _) hline (hs _) (hpl _)) fun σ H Q t => ?_
  obtain ⟨x, k1, k2, k3⟩ := readMl h2 t
  exact ⟨x, k1, k2, k3⟩
theorem e_ml0 {x name : Str} {id : String} {i : Nat} {p apos : Pos} {r : V → List V → Hp → VK → Prop} {od : List D → List D → Option (D × List D)} (slot : PySem.Slot "list" name id) (hty : typeOf (.builtin id) = pure (.type "method_descriptor"))
    (hr : ∀ X, At g X → MtR X id r ∧ MlR X r od) (hN : g.N[i]? = some x := by rfl) (hv : Vis g.sc x := by first | exact Or.inl rfl | exact Or.inr (Or.inl rfl) | exact Or.inr (Or.inr rfl)) (hd : (x == ("__debug__" : Str)) = false := by decide) (hcd : (x == ("__classdict__" : Str)) = false := by decide)
    (hbase : ∀ env, attributeBase (.Name x p) name env (eval (.Name x p) env) = eval (.Name x p) env := by intro _; rfl)
    (hline : (apos.endLine == pos.line) = true := by rfl) :
    EOk g (.Call (.Attribute (.Name x p) name apos) [] [] pos) (eMl g.ios i od aNil) := fun X W A tk => by
  obtain ⟨h1, h2⟩ := hr X A
  refine PE.imp (pe_bm0 PySem.F.plainAttrs_list slot hty h1 (pe_var (i := i) (by rw [A.N]; exact hN) (by unfold Vis; rw [A.sc]; exact hv) hd hcd) (hbase _) hline) fun σ H Q t => ?_
  obtain ⟨x, k1, k2, ρ, R, k3⟩ := readMl h2 t
  exact ⟨x, k1, k2, k3 H (Ext.refl H) R [] rfl⟩
theorem immL_1 {K : PySem.W.Frag} {H : Hp} {d : D} {xs : List V} (h : ImmL K H [d] xs) : ∃ x, xs = [x] ∧ Imm K H d x := by
  obtain ⟨v, r, e, h1, h2⟩ := h
  cases (show _ = _ from h2)
  exact ⟨v, e, h1⟩
theorem immL_2 {K : PySem.W.Frag} {H : Hp} {d d' : D} {xs : List V} (h : ImmL K H [d, d'] xs) : ∃ x y, xs = [x, y] ∧ Imm K H d x ∧ Imm K H d' y := by
  obtain ⟨v, r, e, h1, h2⟩ := h
  obtain ⟨w, rfl, h3⟩ := immL_1 h2
  exact ⟨v, w, e, h1, h3⟩
def mAppend (ls ds : List D) : Option (D × List D) := match ds with
  | [d] => if ls.length < 16777216 then some (.non, ls ++ [d]) else none
  | _ => none
theorem m_append (A : At g X) : MtR X "list.append" rAppend ∧ MlR X rAppend mAppend := ⟨mt_append, fun a vs xs H Q ls ds ls' z hv iv im hod q => by
  match ds, hod with
  | [d], hod =>
    obtain ⟨x, rfl, ix⟩ := immL_1 im
    simp only [mAppend] at hod
    split at hod
    · rename_i hl
      cases hod
      obtain ⟨e1, e2, e3⟩ := lst_upd hv (iv.snoc ix)
      exact ⟨a, vs, x, rfl, rfl, hv, by rw [iv.len, sizeLine_eq]; exact hl, q _ _ e1 e2 e3 rfl⟩
    · cases hod⟩
def mPop (ls ds : List D) : Option (D × List D) := match ds with
  | [] => match ls[ls.length - 1]? with
    | some d => some (d, ls.dropLast)
    | none => none
  | _ => none
theorem immL_dropLast {K : PySem.W.Frag} {H : Hp} {ds : List D} {vs : List V} (h : ImmL K H ds vs) : ImmL K H ds.dropLast vs.dropLast := by
  rw [List.dropLast_eq_take, List.dropLast_eq_take, h.len]
  exact h.take _
theorem m_pop (A : At g X) : MtR X "list.pop" rPop ∧ MlR X rPop mPop := ⟨mt_pop, fun a vs xs H Q ls ds ls' z hv iv im hod q => by
  match ds, hod with
  | [], hod =>
    cases (show _ = _ from im)
    simp only [mPop] at hod
    split at hod
    · rename_i d hd
      cases hod
      obtain ⟨y, hy, iy⟩ := iv.get' hd
      obtain ⟨e1, e2, e3⟩ := lst_upd hv (immL_dropLast iv)
      exact ⟨a, vs, y, rfl, rfl, hv, by rw [iv.len]; exact hy, q _ _ e1 e2 e3 (Imm.ext e1 _ _ iy)⟩
    · cases hod⟩
def mPopAt (ls ds : List D) : Option (D × List D) := match ds with
  | [.int i] => if -(2 ^ 63) ≤ i ∧ i < 2 ^ 63 then (match seqIndex? i ls.length with
    | some k => (match ls[k]? with
      | some d => some (d, ls.eraseIdx k)
      | none => none)
    | none => none) else none
  | _ => none
theorem m_popAt (A : At g X) : MtR X "list.pop" rPopAt ∧ MlR X rPopAt mPopAt := ⟨mt_popAt, fun a vs xs H Q ls ds ls' z hv iv im hod q => by
  match ds, hod with
  | [.int i], hod =>
    obtain ⟨x, rfl, ix⟩ := immL_1 im
    cases (show _ = _ from ix)
    simp only [mPopAt] at hod
    split at hod
    case isFalse => cases hod
    rename_i hi
    split at hod
    case h_2 => cases hod
    rename_i k hk
    split at hod
    case h_2 => cases hod
    rename_i d hd
    cases hod
    obtain ⟨y, hy, iy⟩ := iv.get' hd
    obtain ⟨e1, e2, e3⟩ := lst_upd hv (iv.erase k)
    exact ⟨a, vs, i, k, y, rfl, rfl, hv, hi.1, hi.2, by rw [iv.len]; exact hk, hy, q _ _ e1 e2 e3 (Imm.ext e1 _ _ iy)⟩⟩
def mClear (ls ds : List D) : Option (D × List D) := match ds with
  | [] => some (.non, [])
  | _ => none
theorem m_clear (A : At g X) : MtR X "list.clear" rClear ∧ MlR X rClear mClear := ⟨mt_clear, fun a vs xs H Q ls ds ls' z hv iv im hod q => by
  match ds, hod with
  | [], hod =>
    cases (show _ = _ from im)
    cases hod
    obtain ⟨e1, e2, e3⟩ := lst_upd (K := X.K) (ys := []) (es := []) hv rfl
    exact ⟨a, vs, rfl, rfl, hv, q _ _ e1 e2 e3 rfl⟩⟩
def mReverse (ls ds : List D) : Option (D × List D) := match ds with
  | [] => some (.non, ls.reverse)
  | _ => none
theorem m_reverse (A : At g X) : MtR X "list.reverse" rReverse ∧ MlR X rReverse mReverse := ⟨mt_reverse, fun a vs xs H Q ls ds ls' z hv iv im hod q => by
  match ds, hod with
  | [], hod =>
    cases (show _ = _ from im)
    cases hod
    obtain ⟨e1, e2, e3⟩ := lst_upd hv iv.reverse
    exact ⟨a, vs, rfl, rfl, hv, q _ _ e1 e2 e3 rfl⟩⟩
theorem PSet.or {X : Cx} {t t' : TSet} (h : PSet X t) (h' : PSet X t') : PSet X (fun o i v H Q => t o i v H Q ∨ t' o i v H Q) := by
  intro pins s σ H o i v ov iv u Q I ro ri rv q
  rcases q with q | q
  · exact h pins s σ H o i v ov iv u Q I ro ri rv q
  · exact h' pins s σ H o i v ov iv u Q I ro ri rv q
/-! ### o[i] = v -/
def dSet (d : D) (k : D) (v : D) : Option D := match d, k with
  | .lst ls, .int i => (ixN ls.length i).map fun j => .lst (ls.set j v)
  | .dic t kvs, k => (kOf t k).bind fun kk => if kvs.length < 16777216 then some (.dic t (gPut t kvs kk k v)) else none
  | _, _ => none
def gSb (i : Nat) (fi : Ex) : Gx := fun v ρ => match ownD ρ i, fi ρ with
  | some _, .ok (s, ρ1) => (match PL.pk ρ1 s, ownD ρ1 i with
    | .ok k, some d => (dSet d k v).map fun d' => putO ρ1 i d'
    | _, _ => none)
  | _, _ => none
theorem g_sub {x : Str} {p : Pos} {i : Nat} {fi : Ex} (hi : EOk g ie fi) (hN : g.N[i]? = some x := by rfl) (hv : Vis g.sc x := by first | exact Or.inl rfl | exact Or.inr (Or.inl rfl) | exact Or.inr (Or.inr rfl)) (hd : (x == ("__debug__" : Str)) = false := by decide) (hcd : (x == ("__classdict__" : Str)) = false := by decide)
    (ha : ∀ env v, assign (.Subscript (.Name x p) ie pos) env v = (do
      let ov ← holding [v] (eval (.Name x p) env)
      let iv ← holding [v, ov] (eval ie env)
      standAt pos
      holding [v, ov, iv] (setItem ov iv v)
      release [v, ov, iv] []) := by intro _ _; rfl) : GOk g (.Subscript (.Name x p) ie pos) [] (gSb i fi) := fun X A => by
  refine PG.imp (pg_sub (pe_var (i := i) (by rw [A.N]; exact hN) (by unfold Vis; rw [A.sc]; exact hv) hd hcd) (hi.n A takes0) (PSet.or set_list (set_dict (by have := A.room.un; omega))) (ha _)) fun v σ H Q ⟨ρ, d, R, im, q⟩ => ?_
  unfold gSb at q
  split at q
  case h_2 => exact q.elim
  rename_i d0 s ρ1 ho hf
  obtain ⟨a, ha1, o⟩ := R.own i _ (ownD_is ho)
  refine ⟨_, ha1, ρ, R, ?_⟩
  rw [hf]
  intro H1 E1 R1 y n1
  split at q
  case h_2 => exact q.elim
  rename_i k dd hk ho1
  have hi1 := ownD_is ho1
  obtain ⟨a', ha2, o'⟩ := R1.own i _ hi1
  rw [ha1] at ha2
  cases ha2
  cases hs : dSet dd k d with
  | none => rw [hs] at q; exact q.elim
  | some d' =>
    rw [hs] at q
    unfold dSet at hs
    split at hs
    case h_3 => cases hs
    case h_2 t kvs =>
      cases hk2 : kOf t k with
      | none => rw [hk2] at hs; cases hs
      | some kk =>
        rw [hk2, Option.bind_some] at hs
        split at hs
        case isFalse => cases hs
        case isTrue hl =>
          cases hs
          obtain ⟨H', e0, e1, e2, e3⟩ := dput_of o' (pk_rd n1 R1 (Ext.refl _) hk) hk2 (Imm.ext E1 _ _ im) hl
          exact .inr ⟨a, H', rfl, e0, q σ _ (Chs.refl _ _) (E1.trans e1) (R1.put hi1 ha1 e2 e1 e3)⟩
    rename_i ls j
    obtain ⟨vs, hv1, iv⟩ := o'
    cases hj : ixN ls.length j with
    | none => rw [hj] at hs; cases hs
    | some jj =>
      rw [hj] at hs
      cases hs
      have hy := (pk_rd n1 R1 (Ext.refl _) hk).int
      obtain ⟨e1, e2, e3⟩ := lst_upd hv1 (iv.set jj (Imm.ext E1 _ _ im))
      exact .inl ⟨a, vs, j, jj, rfl, hy, hv1, by rw [iv.len]; exact hj, q σ _ (Chs.refl _ _) (E1.trans e1) (R1.put hi1 ha1 e2 e1 e3)⟩
/-! ### x op= e -/
def IpB (X : Cx) (op : Operator) (od : D → D → Option S) : Prop :=
  ∃ r : TIp, PIp X op r ∧ ∀ (x y : V) (H : Hp) (Q : VK) (d1 d2 : D) (s : S), Imm X.K H d1 x → Rd X.K H d2 y → od d1 d2 = some s → (∀ z H', Same H H' → RS X.K H H' s z → Q z H') → r x y H Q
def valD (ρ : Rho) (i : Nat) : Option D := match ρ[i]? with
  | some (some (.v d)) => some d
  | _ => none
theorem valD_is {ρ : Rho} {i : Nat} {d : D} (h : valD ρ i = some d) : ρ[i]? = some (some (.v d)) := by
  unfold valD at h
  split at h
  · rename_i d' h'; cases h; exact h'
  · cases h
def sAug (l : List Nat) (i : Nat) (od : D → D → Option S) (f : Ex) : Sx := fun ρ => liftO (valD ρ i) >>= fun d1 => f ρ >>= fun p => PL.pk p.2 p.1 >>= fun d2 => liftO (od d1 d2) >>= fun s => if i ∈ l then .stuck else .ok (.next (p.2.set i (some s)))
theorem s_aug {i : Nat} {x : Str} {op : Operator} {od : D → D → Option S} {f : Ex} {pos' : Pos} (sl : Slot g x i) (ho : ∀ X, At g X → IpB X op od) (h : EOk g e f) : SOk g (.AugAssign (.Name x pos') op e pos) (sAug g.ios i od f) := fun X W A tk => by
  obtain ⟨r, hr, hh⟩ := ho X A.toAt
  refine PS.imp (ps_aug (i := i) (by rw [A.N]; exact sl.nd) (by rw [A.N]; exact sl.ix) (by unfold L2.Loc; rw [A.sc]; exact sl.loc) (h.n A.toAt tk) hr (by rw [A.sc]; exact sl.fn.imp (A.fn x) id)) fun D σ H ⟨ρ, R, q⟩ => ?_
  obtain ⟨d1, hd1, q1⟩ := q.opt
  obtain ⟨x1, k1, k2⟩ := R.val i d1 (valD_is hd1)
  refine ⟨x1, k1, ρ, R, Ps_step q1 fun p _ q2 H1 E1 R1 y n => ?_⟩
  obtain ⟨d2, h2, q3⟩ := q2.pk
  obtain ⟨s, hs, q4⟩ := q3.opt
  refine hh x1 y H1 _ d1 d2 s (Imm.ext E1 _ _ k2) (pk_rd n R1 (Ext.refl _) h2) hs fun z H2 sm rs => ?_
  split at q4
  · exact q4.elim
  · rename_i hio
    have R2 := R1.same sm
    have b : BR X.K g p.2 σ H2 s z := by
      have sr := rs.sr R1
      cases s with
      | v d => exact sr
      | o d => exact sr
      | b j => exact rs.elim
    exact q4 _ H2 (E1.trans (Ext.of_same sm)) (R2.set b hio)
theorem ipB_of {op : Operator} {r : TIp} (hr : PIp X op r) {od : D → D → Option S} (h : ∀ (x y : V) (H : Hp) (Q : VK) (d1 d2 : D) (s : S), Imm X.K H d1 x → Rd X.K H d2 y → od d1 d2 = some s → (∀ z H', Same H H' → RS X.K H H' s z → Q z H') → r x y H Q) : IpB X op od := ⟨r, hr, h⟩
def iAdd : D → D → Option S
  | .int i, .int j => some (.v (.int (i + j)))
  | .str i, .str j => if i.length + j.length ≤ 16777216 then some (.v (.str (i ++ j))) else none
  | _, _ => none
theorem ip_or {op : Operator} {r r' : TIp} (h : PIp X op r) (h' : PIp X op r') : PIp X op (fun x y H Q => r x y H Q ∨ r' x y H Q) := fun pins s σ H x y v u Q I r1 r2 q => by
  rcases q with q | q
  · exact h pins s σ H x y v u Q I r1 r2 q
  · exact h' pins s σ H x y v u Q I r1 r2 q
theorem i_add (A : At g X) : IpB X .Add iAdd := by
  refine ⟨_, ip_or iop_add iop_add_str, fun x y H Q d1 d2 s r1 r2 h q => ?_⟩
  unfold iAdd at h
  split at h
  · cases h
    cases (show _ = _ from r1)
    cases r2.int
    exact .inl ⟨_, _, rfl, rfl, q _ H (Same.refl H) rfl⟩
  · split at h
    · rename_i hz
      cases h
      cases (show _ = _ from r1)
      cases r2.str
      exact .inr ⟨_, _, rfl, rfl, line_le hz, q _ H (Same.refl H) rfl⟩
    · cases h
  · cases h
def iInt (f : Int → Int → Option Int) : D → D → Option S
  | .int i, .int j => (f i j).map fun k => .v (.int k)
  | _, _ => none
theorem iInt_is {f : Int → Int → Option Int} {d1 d2 : D} {s : S} (h : iInt f d1 d2 = some s) : ∃ i j k, d1 = .int i ∧ d2 = .int j ∧ f i j = some k ∧ s = .v (.int k) := by
  unfold iInt at h
  split at h
  · rename_i i j
    cases hf : f i j with
    | none => rw [hf] at h; cases h
    | some k => rw [hf] at h; cases h; exact ⟨i, j, k, rfl, rfl, hf, rfl⟩
  · cases h
def iSub := iInt fun i j => some (i - j)
theorem i_sub (A : At g X) : IpB X .Sub iSub := by
  refine ⟨_, iop_sub, fun x y H Q d1 d2 s r1 r2 h q => ?_⟩
  obtain ⟨i, j, k, rfl, rfl, hf, rfl⟩ := iInt_is h
  cases hf
  cases (show _ = _ from r1)
  cases r2.int
  exact ⟨_, _, rfl, rfl, q _ H (Same.refl H) rfl⟩
end
end PL

/-! enumerate of anything that begins (Begins) -/
namespace PL
open PySem PySem.Spec PyProof.Rows L2
theorem enumNew {v : Value} {o : Obj} {H : Heap → Prop} (B : PySem.Begins v o H) :
    Meets (Builtin.«enumerate.__new__» ⟨[.type "enumerate", v], []⟩) (fun _ R s => H s.heap ∧
      R (.ok (.ret (.ref (s.heap.push o).objs.size))) { s with heap := (s.heap.push o).push { cls := .type "enumerate", data := .fields #[.none, .bool false, .ref s.heap.objs.size, rawInt 0, .none, .none] } }) :=
  .of_wp fun prog w A R s h => by
    obtain ⟨hp, g, d, tk, os⟩ := s; obtain ⟨h1, h⟩ := h
    have hsub := sub_enumerate
    have q1 : ∀ {A' : Around} {E : Value → Shared → Prop} {Q : Value → Shared → Prop}, Q (.ref hp.objs.size) ⟨hp.push o, g, d, tk, os⟩ → wpAny (model prog w) A' (pyIter v) Q E ⟨hp, g, d, tk, os⟩ :=
      fun q => B.iter prog w _ _ ⟨hp, g, d, tk, os⟩ _ h1 q
    wp_walk using q1
    refine wpAny_stack_any fun st => wpAny_pure ?_
    split
    · rename_i c _ _ _ _ _
      cases (c == Value.type "enumerate")
      · wp_walk using q1
        exact ⟨_, rfl, h⟩
      · wp_walk using q1
        exact ⟨_, rfl, h⟩
    · wp_walk using q1
      exact ⟨_, rfl, h⟩
section
variable {prog : Program} {w : World} {A : Around} {E : Value → Shared → Prop} {s : Shared}
theorem enum_begins1 {v : Value} {o : Obj} {H : Heap → Prop} {Q : Value → Shared → Prop} (B : PySem.Begins v o H) (h1 : H s.heap)
    (h : ∀ h', IsEnum h' (s.heap.objs.size + 1) s.heap.objs.size 0 .none → h'.get? s.heap.objs.size = some o → h'.objs.size = s.heap.objs.size + 2 →
      (∀ b o, s.heap.get? b = some o → h'.get? b = some o) → Q (.ref (s.heap.objs.size + 1)) { s with heap := h' }) :
    wpAny (model prog w) A (call (.type "enumerate") [v]) Q E s := by
  refine callType_new F.called_enumerate (by decide) (F.typeCall_enumerate_1 _) (F.newCall_enumerate_1 _) (fun obj => F.args_object_init_2 obj _) F.entry_enumerate_new
    (enumNew B) ⟨h1, ?_⟩
  have hz : (s.heap.push o).objs.size = s.heap.objs.size + 1 := Heap.size_push ..
  show _ ∧ _
  rw [hz]
  have he : IsEnum ((s.heap.push o).push { cls := .type "enumerate", data := .fields #[.none, .bool false, .ref s.heap.objs.size, rawInt 0, .none, .none] }) (s.heap.objs.size + 1) s.heap.objs.size 0 .none := by
    have := Heap.get?_push_size (s.heap.push o) (o := { cls := .type "enumerate", data := .fields #[.none, .bool false, .ref s.heap.objs.size, rawInt 0, .none, .none] }) rfl
    rw [hz] at this; exact this
  refine ⟨⟨_, he, rfl⟩, h _ he (Heap.get?_push_of_some _ (Heap.get?_push_size _ B.free)) (by rw [Heap.size_push, hz]) fun b o x => Heap.get?_push_of_some _ (Heap.get?_push_of_some _ x)⟩
end
theorem enumEnd {prog : Program} {w : World} {A : Around} {E : Value → Shared → Prop} {s : Shared} {e it t : Addr} {i : Nat} {c : Int} {items : Array Value} {old : Value} {Q : Option Value → Shared → Prop} (hh : A.handled = none)
    (he : IsEnum s.heap e it c old) (hit : s.heap.IsTupleIter it t i) (ht : s.heap.IsTuple t items) (hx : items[i]? = none)
    (hQ : ∀ h', Heap.ExtBut it s.heap h' → Q none { s with heap := h' }) : wpAny (model prog w) A (pyNext (.ref e)) Q E s := by
  have hT : s.TypeIs (.ref e) "enumerate" := ⟨_, he, rfl⟩
  unfold pyNext
  refine wpAny_bind (wpAny_attempt (wpAny_callSpecial?_slot (name := Str.ofString "__next__") hT F.slot_enumerate_next
    (wpAny_call_entry F.slot_enumerate_next hT F.entry_enumerate_next ?_ (F.args_enumerate_next_1 _))))
  show wpAny _ _ (field (.ref e) 2 >>= _) _ _ _
  refine wpAny_bind (wpAny_field he rfl (x := .ref it) rfl ?_)
  refine wpAny_bind (wpAny_nextOf_tuple_end hh hit ht hx fun h' x he' hx' => ?_)
  obtain ⟨o, ho, hc⟩ := hx'
  refine wpAny_bind (wpAny_isInstance (T := "StopIteration") (b := true) ⟨o, ho, hc⟩ isSubtype_stop ?_)
  exact wpAny_pure (hQ _ he')
/-- the tuple at a, each item in a new pair with its place -/
def IteT (K : PySem.W.Frag) (a : Addr) : It :=
  ⟨fun i H => ∃ (xs : List V) (x : V), SqT K H a xs ∧ xs[i]? = some x, fun i H v H' => ∃ T x, v = .ref T ∧ H T = none ∧ H' = upd H T (.tup [.int (i : Nat), x]) ∧ ∀ xs, SqT K H a xs → xs[i]? = some x, fun i H => ∃ xs : List V, SqT K H a xs ∧ xs.length ≤ i⟩
theorem turn_enumT {P : Program} {w : World} {K : PySem.W.Frag} {elts : List Expr} {kk : Nat} {tpos : Pos} (a e it : Addr) (hne : a ≠ it) (hae : a ≠ e) :
    Turn P w K (.Tuple elts kk tpos) (IteT K a) [e, it] e (fun i h => (∃ old, IsEnum h e it ((i : Nat) : Int) old) ∧ h.IsTupleIter it a i ∧ e ≠ it) where
  mem := by simp
  obj := fun i h st b hb => by
    obtain ⟨⟨old, he⟩, ⟨o, ho, hc, hd⟩, _⟩ := st
    have e' : b = e ∨ b = it := by simpa using hb
    rcases e' with z | z
    · rw [z]; exact ⟨_, he, fun v q => nomatch q⟩
    · rw [z]; exact ⟨o, ho, fun v q => by rw [hd] at q; cases q⟩
  keep := fun i h h' st k => let ⟨⟨old, he⟩, hi, hne⟩ := st; ⟨⟨old, k e (by simp) _ he⟩, hi.at fun o q => k it (by simp) o q, hne⟩
  item := by
    intro X hP hw hK hc i pins s σ H E I hf st hg
    subst hP hw hK
    obtain ⟨⟨old, he⟩, hit, hei⟩ := st
    obtain ⟨xs, x, hq, hx⟩ := hg
    obtain ⟨its, rv, p, hz⟩ := I.tuple hq
    obtain ⟨u, hu, ru⟩ := rv.get hx
    have hel : e < s.heap.objs.size := Heap.lt_size he
    have hil : it < s.heap.objs.size := by obtain ⟨_, q, _⟩ := hit; exact Heap.lt_size q
    have hil2 : i < its.toArray.size := by
      rcases Nat.lt_or_ge i its.length with z | z
      · simpa using z
      · rw [List.getElem?_eq_none z] at hu; cases hu
    refine wpAny_pyNext_enum_itemD (Draws.tuple (A := X.A.in1) (show X.A.in1.handled = none from I.ok.hd hc) it a hne its.toArray) he ⟨hit, p⟩ hil2 hei (fun z => by
      rcases List.mem_cons.mp z with z | z
      · exact hei z
      · exact hae (List.mem_singleton.mp z).symm) fun u' h' tk hu' ho hst' hT hsz hk => ?_
    have hu2 : u' = u := by
      have : its.toArray[i]? = some u' := hu'
      rw [List.getElem?_toArray, hu] at this
      exact (Option.some.inj this).symm
    subst hu2
    obtain ⟨hit', _⟩ := hst'
    refine ⟨_, rfl, wpAny_letOwnedTupleGo_enum (s := { s with heap := h', toks := tk + 1 }) ho fun h'' he' sb => ?_⟩
    have hT2 : h''.get? s.heap.objs.size = some { cls := .type "tuple", data := .seq #[.int i tk, u'] } := (sb.2 _ (Nat.ne_of_gt hel)).trans hT
    have new : ObjOk X.prog X.w (upd H s.heap.objs.size (.tup [.int (i : Nat), x])) h'' s.heap.objs.size (.tup [.int (i : Nat), x]) :=
      ⟨by show 2 ≤ sizeLine; decide, [.int i tk, u'], .cons ⟨_, rfl⟩ (.cons ru .nil), ⟨_, hT2, rfl, _, rfl⟩⟩
    have I1 : Inv X pins σ (upd H s.heap.objs.size (.tup [.int (i : Nat), x])) { s with heap := h'', toks := tk + 1 } :=
      I.turnedNew (ch := [e, it]) (fun b ob hb q => (sb.2 b (fun z => hb (by simp [z]))).trans (hk b ob (fun z => hb (by simp [z])) (fun z => hb (by simp [z])) q)) hf (Nat.le_refl _) new
    refine ⟨.ref s.heap.objs.size, _, I1, rfl, ⟨_, x, rfl, I.hok.fresh (Nat.le_refl _), rfl, fun ys hy => by rw [I.tuple_inj hy hq]; exact hx⟩, ⟨⟨u', ?_⟩, hit'.at fun o q => (sb.2 it (Ne.symm hei)).trans q, hei⟩, fun b hb => ?_⟩
    · have e1 : ((i + 1 : Nat) : Int) = (i : Int) + 1 := by omega
      rw [e1]; exact he'
    · have hb' : b < s.heap.objs.size := by
        have e' : b = e ∨ b = it := by simpa using hb
        rcases e' with z | z
        · rw [z]; exact hel
        · rw [z]; exact hil
      rw [upd_ne (Nat.ne_of_lt hb')]
      exact (hf b hb).1
  done := by
    intro X hP hw hK hc i pins s σ H E I hf st hg
    subst hP hw hK
    obtain ⟨⟨old, he⟩, hit, hei⟩ := st
    obtain ⟨xs, hq, hx⟩ := hg
    obtain ⟨its, rv, p, hz⟩ := I.tuple hq
    obtain ⟨f0, f1, f2, f3, f4, f5⟩ := hf it (by simp)
    have hl := rv.length
    have hle : its.toArray[i]? = none := by simp; omega
    refine enumEnd (I.ok.hd hc) he hit p hle fun h' eb => ⟨rfl, I.turned (t' := s.toks) (fun b o hb q => eb b o hb q) f0 f1 f3 f4 f5⟩
  self := fun A i s Q E st h => let ⟨⟨_, he⟩, _⟩ := st; wpAny_pyIter_enum he h
/-- enumerate(x), x a list or a tuple -/
def iEnumA (K : PySem.W.Frag) (ta : TA) : TI := fun σ H R => ta σ H fun vs H1 => ∃ a xs, vs = [.ref a] ∧ ((SqL K H1 a xs ∧ R (Ite K a) H1) ∨ (SqT K H1 a xs ∧ R (IteT K a) H1))
theorem pi_enumA {X : Cx} {e : Expr} {ta : TA} {p pos tpos : Pos} {elts : List Expr} {kk : Nat} (hg : Gl X "enumerate") (hm : X.mg "enumerate" = none) (ha : PA X [e] ta) (hs : starEach [e] X.env = [(false, eval e X.env)] := by rfl) :
    PI X (.Tuple elts kk tpos) (.Call (.Name "enumerate" p) [e] [] pos) (iEnumA X.K ta) := by
  refine ⟨fun pins s σ H R I h => ?_⟩
  refine Call_ (ld_blt I hg hm boot_enumerate (PyProof.Rows.callWith_type1 (thn (ha.run pos pins s σ H _ I h) fun us s1 ⟨vs, H1, I1, r1, q1⟩ => ?_) hs rfl))
  obtain ⟨a, xs, ex, hq⟩ := q1
  subst ex
  cases r1 with
  | cons r rr =>
    cases rr
    cases r
    have fp : ∀ b, b ∈ [s1.heap.objs.size + 1, s1.heap.objs.size] → FpOk X pins H1 b := fun b hb => by
      have e' : b = s1.heap.objs.size + 1 ∨ b = s1.heap.objs.size := by simpa using hb
      have hle : s1.heap.objs.size ≤ b := by
        rcases e' with z | z
        · rw [z]; exact Nat.le_add_right _ _
        · rw [z]; exact Nat.le_refl _
      exact I1.fpOk hle (I1.hok.fresh hle)
    rcases hq with ⟨hq, q⟩ | ⟨hq, q⟩
    · obtain ⟨its, rv, p', hz⟩ := I1.list hq
      refine call_enumerate_list p'.isList fun h' he hit hsz hk => wpAny_pyIter_enum he ?_
      have I2 : Inv X pins σ H1 { s1 with heap := h' } := I1.kept (t' := s1.toks) hk
      exact ⟨s1.heap.objs.size + 1, [s1.heap.objs.size + 1, s1.heap.objs.size], _, _, H1, rfl, I2, turn_enum a (s1.heap.objs.size + 1) s1.heap.objs.size, ⟨⟨.none, he⟩, hit, Nat.succ_ne_self _⟩, fp, q⟩
    · obtain ⟨its, rv, p', hz⟩ := I1.tuple hq
      have hal : a < s1.heap.objs.size := by obtain ⟨_, e1, _⟩ := id p'; exact Heap.lt_size e1
      refine enum_begins1 (begins_tuple a its.toArray) p' fun h' he hit hsz hk => wpAny_pyIter_enum he ?_
      have I2 : Inv X pins σ H1 { s1 with heap := h' } := I1.kept (t' := s1.toks) hk
      exact ⟨s1.heap.objs.size + 1, [s1.heap.objs.size + 1, s1.heap.objs.size], _, _, H1, rfl, I2, turn_enumT a (s1.heap.objs.size + 1) s1.heap.objs.size (Nat.ne_of_lt hal) (Nat.ne_of_lt (Nat.lt_succ_of_lt hal)), ⟨⟨.none, he⟩, ⟨_, hit, rfl, rfl⟩, Nat.succ_ne_self _⟩, fp, q⟩
section
variable {g : Cf} {X : Cx} {e a b c tg : Expr} {es : List Expr} {pos : Pos}
theorem walk_enumT {K : PySem.W.Frag} {a : Addr} {xs : List V} : Walk (IteT K a) xs.length (fun H => SqT K H a xs) (YPair (fun i => some (.int (i : Nat))) (fun i => xs[i]?)) := by
  refine ⟨fun i _ hi q => ⟨xs, xs[i], q, by simp [hi]⟩, fun _ q => ⟨xs, q, Nat.le_refl _⟩, fun i H v H' _ q y => ?_⟩
  obtain ⟨T, x, h1, h2, h3, h4⟩ := y
  exact ⟨T, .int (i : Nat), x, h1, h2, h3, rfl, h4 xs q⟩
def enD : Nat → List D → List D
  | _, [] => []
  | k, d :: ds => .tup [.int (k : Nat), d] :: enD (k + 1) ds
theorem enD_len : ∀ (ds : List D) (k : Nat), (enD k ds).length = ds.length
  | [], _ => rfl
  | d :: ds, k => by rw [enD, List.length_cons, List.length_cons, enD_len ds]
theorem enD_get : ∀ (ds : List D) (k i : Nat), (enD k ds)[i]? = ds[i]?.map fun d => .tup [.int ((k + i : Nat) : Int), d]
  | [], _, _ => by simp [enD]
  | d :: ds, k, 0 => by simp [enD]
  | d :: ds, k, i + 1 => by
    rw [enD, List.getElem?_cons_succ, enD_get ds (k + 1) i, List.getElem?_cons_succ]
    rw [show k + 1 + i = k + (i + 1) by omega]
/-- from a walk of new pairs -/
theorem it_pair {K : PySem.W.Frag} {J : It} {H : Hp} {G : Hp → Prop} {n : Nat} {fx fy : Nat → Option V} {ps : List D} (hn : ps.length = n) (w : Walk J n G (YPair fx fy)) (g : G H) (gs : ∀ H1 H2, Ext H1 H2 → G H1 → G H2)
    (hp : ∀ i H1 x y, i < n → G H1 → fx i = some x → fy i = some y → ∃ d e, ps[i]? = some (.tup [d, e]) ∧ Imm K H1 d x ∧ Imm K H1 e y) : ItOk K J ps H := by
  subst hn
  refine ⟨G, _, w, g, gs, fun i H1 v H2 hi hg hy => ?_⟩
  obtain ⟨T, x, y, rfl, hT, rfl, h1, h2⟩ := hy
  obtain ⟨d, e, h3, h4, h5⟩ := hp i H1 x y hi hg h1 h2
  have sm : Same H1 (upd H1 T (.tup [x, y])) := new_tup (K := K) hT
  exact ⟨sm, _, h3, T, _, rfl, TpT.of upd_same, x, [y], rfl, Imm.ext (Ext.of_same sm) _ _ h4, y, [], rfl, Imm.ext (Ext.of_same sm) _ _ h5, rfl⟩
theorem it_enT {K : PySem.W.Frag} {H : Hp} {ds : List D} {vs : List V} {a : Addr} (h1 : TpT K H a vs) (h2 : ImmL K H ds vs) : ItOk K (IteT K a) (enD 0 ds) H := by
  refine it_pair (by rw [enD_len, ← h2.len]) (walk_enumT.mono (G' := fun H => TpT K H a vs ∧ ImmL K H ds vs) (fun H g => g.1.seq) fun _ _ _ _ _ _ y => y) ⟨h1, h2⟩ (fun H1 H2 e g => ⟨e.sqT g.1, ImmL.ext e _ _ g.2⟩) fun i H1 x y hi g hx hy => ?_
  cases hx
  obtain ⟨d, hd, im⟩ := g.2.get hy
  exact ⟨.int (i : Nat), d, by rw [enD_get, hd, Nat.zero_add]; rfl, rfl, im⟩
theorem it_enL {K : PySem.W.Frag} {H : Hp} {ds : List D} {vs : List V} {a : Addr} (h1 : FzL K H a vs) (h2 : ImmL K H ds vs) : ItOk K (Ite K a) (enD 0 ds) H := by
  refine it_pair (by rw [enD_len, ← h2.len]) (walk_enum.mono (G' := fun H => FzL K H a vs ∧ ImmL K H ds vs) (fun H g => g.1.seq) fun _ _ _ _ _ _ y => y) ⟨h1, h2⟩ (fun H1 H2 e g => ⟨e.fzL g.1, ImmL.ext e _ _ g.2⟩) fun i H1 x y hi g hx hy => ?_
  cases hx
  obtain ⟨d, hd, im⟩ := g.2.get hy
  exact ⟨.int (i : Nat), d, by rw [enD_get, hd, Nat.zero_add]; rfl, rfl, im⟩
theorem it_enS {K : PySem.W.Frag} {H : Hp} {ns : List Int} {a : Addr} (h1 : ScrL K H a (ns.map V.int)) : ItOk K (Ite K a) (enD 0 (ns.map .int)) H := by
  refine it_pair (n := (ns.map V.int).length) (by rw [enD_len, List.length_map, List.length_map]) (walk_enum.mono (G' := fun H => ScrL K H a (ns.map V.int)) (fun H g => g.seq) fun _ _ _ _ _ _ y => y) h1 (fun H1 H2 e g => e.scrL g) fun i H1 x y hi g hx hy => ?_
  cases hx
  obtain ⟨d, hd, im⟩ := (immL_map_int (K := K) (H := H1) ns).get hy
  exact ⟨.int (i : Nat), d, by rw [enD_get, hd, Nat.zero_add]; rfl, rfl, im⟩
def dSeq : D → Option (List D)
  | .tup ds => some ds
  | .lst ds => some ds
  | .scr ns => some (ns.map .int)
  | _ => none
def iEn (l : List Nat) (f : Ex) : Ix := fun ρ => eF l f ρ >>= fun p => liftO (dSeq p.1) >>= fun ds => .ok (enD 0 ds, p.2)
theorem aF_one {l : List Nat} {f : Ex} (ρ : Rho) : aF l (aCons f aNil) ρ = (eF l f ρ >>= fun p => Out.ok ([p.1], p.2)) := by
  unfold aF aCons aNil eF
  cases f ρ with
  | stuck => rfl
  | exc c ρ1 => rfl
  | ok p =>
    obtain ⟨s, ρ1⟩ := p
    show fzL l [s] ρ1 = (fz l s ρ1 >>= fun p => Out.ok ([p.1], p.2))
    simp only [fzL, bind_ok]
theorem i_en {p tpos : Pos} {elts : List Expr} {kk : Nat} {f : Ex} (hm : g.mg "enumerate" = none) (ha : EOk g e f) (hg : Glo g "enumerate" := by rfl) (hs : ∀ env, starEach [e] env = (false, eval e env) :: starEach [] env := by intro _; rfl) :
    IOk g (.Tuple elts kk tpos) (.Call (.Name "enumerate" p) [e] [] pos) (iEn g.ios f) := fun X W A tk => by
  refine PI.imp (pi_enumA (hg.gl A) (by rw [A.mg]; exact hm) ((a_cons ha a_nil hs).f A tk) (hs _)) fun σ H Q ⟨ρ, R, q⟩ => ?_
  have q : Pst X.K g σ H W (fun p H' => ER X.K g p.2 σ H' → ∀ J, ItOk X.K J p.1 H' → Q J H') (aF g.ios (aCons f aNil) ρ >>= fun p => liftO (match p.1 with | [d] => dSeq d | _ => none) >>= fun ds => .ok (enD 0 ds, p.2)) := by
    rw [aF_one]
    unfold iEn at q
    cases hf : eF g.ios f ρ with
    | stuck => rw [hf] at q; exact q.elim
    | exc c ρ1 => rw [hf] at q; exact q
    | ok p => rw [hf] at q; exact q
  refine tAF_step R q fun ds ρ1 xs H1 R1 E1 im q1 => ?_
  obtain ⟨es', hd, q2⟩ := q1.opt
  match ds, hd with
  | [d], hd =>
    obtain ⟨x, rfl, ix⟩ := immL_1 im
    cases d with
    | tup ds =>
      cases hd
      obtain ⟨a, vs, rfl, s1, i1⟩ := ix
      exact ⟨a, vs, rfl, .inr ⟨s1.seq, q2 H1 (Ext.refl _) R1 _ (it_enT s1 i1)⟩⟩
    | lst ds =>
      cases hd
      obtain ⟨a, vs, rfl, s1, i1⟩ := ix
      exact ⟨a, vs, rfl, .inl ⟨s1.seq, q2 H1 (Ext.refl _) R1 _ (it_enL s1 i1)⟩⟩
    | scr ns =>
      cases hd
      obtain ⟨a, rfl, s1⟩ := ix
      exact ⟨a, _, rfl, .inl ⟨s1.seq, q2 H1 (Ext.refl _) R1 _ (it_enS s1)⟩⟩
    | _ => cases hd
/-! ### zip -/
def zpD : List D → List D → List D
  | d :: ds, e :: es => .tup [d, e] :: zpD ds es
  | _, _ => []
theorem zpD_len : ∀ (ds es : List D), (zpD ds es).length = min ds.length es.length
  | [], _ => by simp [zpD]
  | d :: ds, [] => by simp [zpD]
  | d :: ds, e :: es => by simp only [zpD, List.length_cons, zpD_len ds es]; omega
theorem zpD_get : ∀ (ds es : List D) (i : Nat) (d e : D), ds[i]? = some d → es[i]? = some e → (zpD ds es)[i]? = some (.tup [d, e])
  | [], _, _, _, _, h, _ => by simp at h
  | d :: ds, [], _, _, _, _, h => by simp at h
  | d :: ds, e :: es, 0, _, _, h, h' => by simp at h h'; subst h; subst h'; rfl
  | d :: ds, e :: es, i + 1, d', e', h, h' => by
    rw [List.getElem?_cons_succ] at h h'
    rw [zpD, List.getElem?_cons_succ]
    exact zpD_get ds es i d' e' h h'
theorem walk_zipT {K : PySem.W.Frag} {a b : Addr} {xs ys : List V} : Walk (RZ.ItzT K a b) (min xs.length ys.length) (fun H => SqT K H a xs ∧ SqT K H b ys) (YPair (fun i => xs[i]?) (fun i => ys[i]?)) := by
  refine ⟨fun i _ hi q => ?_, fun _ q => ⟨xs, ys, q.1, q.2, by omega⟩, fun i H v H' _ q y => ?_⟩
  · have h1 : i < xs.length := by omega
    have h2 : i < ys.length := by omega
    exact ⟨xs, ys, xs[i], ys[i], q.1, q.2, by simp [h1], by simp [h2]⟩
  · obtain ⟨T, x, z, h1, h2, h3, h4, h5⟩ := y
    exact ⟨T, x, z, h1, h2, h3, h4 xs q.1, h5 ys q.2⟩
/-- what reads as a list: tracked locked, or the script -/
def LsR (K : PySem.W.Frag) (H : Hp) (d : D) (ds : List D) (a : Addr) (vs : List V) : Prop := (d = .lst ds ∧ FzL K H a vs ∧ ImmL K H ds vs) ∨ ∃ ns, d = .scr ns ∧ ds = ns.map .int ∧ vs = ns.map V.int ∧ ScrL K H a vs
theorem LsR.seq {K : PySem.W.Frag} {H : Hp} {d : D} {ds : List D} {a : Addr} {vs : List V} (h : LsR K H d ds a vs) : SqL K H a vs := by
  rcases h with ⟨_, h, _⟩ | ⟨ns, _, _, _, h⟩
  · exact h.seq
  · exact h.seq
theorem LsR.imm {K : PySem.W.Frag} {H : Hp} {d : D} {ds : List D} {a : Addr} {vs : List V} (h : LsR K H d ds a vs) : ImmL K H ds vs := by
  rcases h with ⟨_, _, h⟩ | ⟨ns, _, rfl, rfl, _⟩
  · exact h
  · exact immL_map_int ns
theorem LsR.ext {K : PySem.W.Frag} {H H' : Hp} (e : Ext H H') {d : D} {ds : List D} {a : Addr} {vs : List V} (h : LsR K H d ds a vs) : LsR K H' d ds a vs := by
  rcases h with ⟨h1, h2, h3⟩ | ⟨ns, h1, h2, h3, h4⟩
  · exact .inl ⟨h1, e.fzL h2, ImmL.ext e _ _ h3⟩
  · exact .inr ⟨ns, h1, h2, h3, e.scrL h4⟩
theorem ls_of {K : PySem.W.Frag} {H : Hp} {d : D} {ds : List D} {x : V} (h : Imm K H d x) (hd : dSeq d = some ds) (ht : ∀ es, d ≠ .tup es) : ∃ a vs, x = .ref a ∧ LsR K H d ds a vs := by
  cases d with
  | lst es => cases hd; obtain ⟨a, vs, rfl, h1, h2⟩ := h; exact ⟨a, vs, rfl, .inl ⟨rfl, h1, h2⟩⟩
  | scr ns => cases hd; obtain ⟨a, rfl, h1⟩ := h; exact ⟨a, _, rfl, .inr ⟨ns, rfl, rfl, rfl, h1⟩⟩
  | tup es => exact absurd rfl (ht es)
  | _ => cases hd
def isTupD : D → Bool
  | .tup _ => true
  | _ => false
def zip2 : List D → Option (List D)
  | [d, e] => if isTupD d = isTupD e then (dSeq d).bind fun ds => (dSeq e).map fun es => zpD ds es else none
  | _ => none
def iZp (l : List Nat) (fa : Ax) : Ix := fun ρ => aF l fa ρ >>= fun p => liftO (zip2 p.1) >>= fun ds => .ok (ds, p.2)
theorem it_zp {K : PySem.W.Frag} {H : Hp} {J : It} {ds es : List D} {xs ys : List V} {G : Hp → Prop} (w : Walk J (min xs.length ys.length) G (YPair (fun i => xs[i]?) (fun i => ys[i]?))) (g : G H) (gs : ∀ H1 H2, Ext H1 H2 → G H1 → G H2) (h1 : ∀ H, G H → ImmL K H ds xs) (h2 : ∀ H, G H → ImmL K H es ys) : ItOk K J (zpD ds es) H := by
  refine it_pair (by rw [zpD_len, (h1 H g).len, (h2 H g).len]) w g gs fun i H1 x y hi g1 hx hy => ?_
  obtain ⟨d, hd, i1⟩ := (h1 H1 g1).get hx
  obtain ⟨e, he, i2⟩ := (h2 H1 g1).get hy
  exact ⟨d, e, zpD_get ds es i d e hd he, i1, i2⟩
theorem i_zp {p tpos : Pos} {elts : List Expr} {kk : Nat} {fa : Ax} (hm : g.mg "zip" = none) (ha : AOk g [a, b] fa) (hg : Glo g "zip" := by rfl) (hs : ∀ env, starEach [a, b] env = (false, eval a env) :: starEach [b] env := by intro _; rfl) (hpl : ∀ env, (backTo pos (starEach [b] env)).any (·.1) = false := by intro _; rfl) :
    IOk g (.Tuple elts kk tpos) (.Call (.Name "zip" p) [a, b] [] pos) (iZp g.ios fa) := fun X W A tk => by
  refine PI.imp (RZ.pi_zipA (hg.gl A) (by rw [A.mg]; exact hm) (ha.f A tk) (hs _) (hpl _)) fun σ H Q ⟨ρ, R, q⟩ => ?_
  refine tAF_step R q fun ds ρ1 xs H1 R1 E1 im q1 => ?_
  obtain ⟨ps, hd, q2⟩ := q1.opt
  match ds, hd with
  | [d, e], hd =>
    obtain ⟨x, y, rfl, ix, iy⟩ := immL_2 im
    simp only [zip2] at hd
    split at hd
    case isFalse => cases hd
    rename_i ht
    cases h1 : dSeq d with
    | none => rw [h1] at hd; cases hd
    | some ds =>
      cases h2 : dSeq e with
      | none => rw [h1, h2] at hd; cases hd
      | some es =>
        rw [h1, h2] at hd
        cases hd
        by_cases hT : isTupD d = true
        · have hT' := ht.symm.trans hT
          cases d <;> cases hT
          cases e <;> cases hT'
          cases h1
          cases h2
          obtain ⟨a1, v1, rfl, s1, i1⟩ := ix
          obtain ⟨a2, v2, rfl, s2, i2⟩ := iy
          exact ⟨a1, a2, v1, v2, rfl, .inr ⟨s1.seq, s2.seq, q2 H1 (Ext.refl _) R1 _ (it_zp (walk_zipT.mono (G' := fun H => (TpT X.K H a1 v1 ∧ ImmL X.K H ds v1) ∧ TpT X.K H a2 v2 ∧ ImmL X.K H es v2) (fun H g => ⟨g.1.1.seq, g.2.1.seq⟩) fun _ _ _ _ _ _ y => y) ⟨⟨s1, i1⟩, s2, i2⟩ (fun _ _ e g => ⟨⟨e.sqT g.1.1, ImmL.ext e _ _ g.1.2⟩, e.sqT g.2.1, ImmL.ext e _ _ g.2.2⟩) (fun _ g => g.1.2) fun _ g => g.2.2)⟩⟩
        · have hT' : ¬ isTupD e = true := fun z => hT (ht.trans z)
          obtain ⟨a1, v1, rfl, s1⟩ := ls_of ix h1 fun es z => hT (by rw [z]; rfl)
          obtain ⟨a2, v2, rfl, s2⟩ := ls_of iy h2 fun es z => hT' (by rw [z]; rfl)
          exact ⟨a1, a2, v1, v2, rfl, .inl ⟨s1.seq, s2.seq, q2 H1 (Ext.refl _) R1 _ (it_zp ((walk_zip rfl).mono (G' := fun H => LsR X.K H d ds a1 v1 ∧ LsR X.K H e es a2 v2) (fun H g => ⟨g.1.seq, g.2.seq⟩) fun _ _ _ _ _ _ y => y) ⟨s1, s2⟩ (fun _ _ e g => ⟨g.1.ext e, g.2.ext e⟩) (fun _ g => g.1.imm) fun _ g => g.2.imm)⟩⟩
end
end PL

/-! defs with one in-out parameter: an own object of the caller that the def may change -/
namespace PL
open PySem PySem.Spec PyProof.Rows L2
theorem ER.putW {K : PySem.W.Frag} {g : Cf} {ρ : Rho} {σ : L2.St} {H H' : Hp} {i : Nat} {d d' : D} {a : Addr} (R : ER K g ρ σ H) (hi : ρ[i]? = some (some (.o d))) (ha : σ[i]? = some (some (.ref a))) (e : ∀ b o, b ≠ a → H b = some o → H' b = some o) (x : Ext H H') (o : OwnAt K H' a d') : ER K g (putO ρ i d') σ H' := by
  have hlt : i < ρ.length := by
    rcases Nat.lt_or_ge i ρ.length with z | z
    · exact z
    · rw [List.getElem?_eq_none z] at hi; cases hi
  have gρ : ∀ j, (putO ρ i d')[j]? = if j = i then some (some (.o d')) else ρ[j]? := fun j => by
    unfold putO
    by_cases hj : j = i
    · subst hj; rw [if_pos rfl, List.getElem?_set_self hlt]
    · rw [if_neg hj, List.getElem?_set_ne (Ne.symm hj)]
  have un : ∀ {j : Nat} {dj : D}, (putO ρ i d')[j]? = some (some (S.o dj)) → ∃ dk : D, ρ[j]? = some (some (S.o dk)) := fun {j dj} h => by
    rw [gρ] at h
    by_cases hj : j = i
    · subst hj; exact ⟨d, hi⟩
    · rw [if_neg hj] at h; exact ⟨_, h⟩
  refine ⟨by unfold putO; rw [List.length_set]; exact R.len, fun j dj h => ?_, fun j dj h => ?_, fun j m h => ?_, fun j m dj dm b h1 h2 h3 h4 => ?_, fun b ob h q => ?_, fun j dj b h1 h2 => ?_, fun p hp => ?_⟩
  · rw [gρ] at h
    by_cases hj : j = i
    · rw [if_pos hj] at h; cases h
    · rw [if_neg hj] at h
      obtain ⟨y, h1, h2⟩ := R.val j dj h
      exact ⟨y, h1, Imm.ext x _ _ h2⟩
  · rw [gρ] at h
    by_cases hj : j = i
    · rw [if_pos hj] at h; cases h; subst hj; exact ⟨a, ha, o⟩
    · rw [if_neg hj] at h
      obtain ⟨b, h1, h2⟩ := R.own j dj h
      have hb : b ≠ a := fun z => hj (R.sep j i dj d a h hi (z ▸ h1) ha)
      obtain ⟨u, hu, _⟩ := h2.some
      exact ⟨b, h1, h2.ext x ((e b u hb hu).trans hu.symm)⟩
  · rw [gρ] at h
    by_cases hj : j = i
    · rw [if_pos hj] at h; cases h
    · rw [if_neg hj] at h; exact R.bor j m h
  · obtain ⟨k1, h1'⟩ := un h1
    obtain ⟨k2, h2'⟩ := un h2
    exact R.sep j m k1 k2 b h1' h2' h3 h4
  · have hb : b ≠ a := fun z => by
      subst z
      rcases R.new i d b hi ha with h0 | h0
      · rw [h0] at h; cases h
      · exact q _ h0 rfl
    exact e b ob hb (R.old b ob h q)
  · obtain ⟨k1, h1'⟩ := un h1
    exact R.new j k1 b h1' h2
  · obtain ⟨h1, dj, h2⟩ := R.io p hp
    refine ⟨h1, ?_⟩
    rw [gρ]
    by_cases hj : p.1 = i
    · rw [if_pos hj]; exact ⟨_, rfl⟩
    · rw [if_neg hj]; exact ⟨_, h2⟩
/-- what a def with an in-out parameter computes: its result, the parameter behind it -/
abbrev Fn1 := List D → Out (S × D)
def sp1 (K : PySem.W.Frag) (n j0 : Nat) (F : Fn1) : Sp := fun vs H Q E => ∃ (ds : List D) (a : Addr) (d : D), ds.length = n ∧ vs.length = n ∧ ds[j0]? = some d ∧ vs[j0]? = some (.ref a) ∧ OwnAt K H a d ∧
  (∀ k d', k ≠ j0 → ds[k]? = some d' → ∃ x, vs[k]? = some x ∧ Imm K H d' x) ∧ (match F ds with
  | .ok (s, d2) => ∀ H' x, Ext H H' → (∀ b o, b ≠ a → H b = some o → H' b = some o) → OwnAt K H' a d2 → RS K H H' s x → Q x H'
  | _ => False)
def rho1 : Nat → List D → Rho
  | _, [] => []
  | 0, d :: ds => some (.o d) :: ds.map fun d => some (.v d)
  | j + 1, d :: ds => some (.v d) :: rho1 j ds
def end1 (j0 : Nat) : Fl → Out (S × D)
  | .ret s ρ' => liftO (ownD ρ' j0) >>= fun d => .ok (s, d)
  | .next ρ' => liftO (ownD ρ' j0) >>= fun d => .ok (.v .non, d)
  | _ => .stuck
theorem end1_r (j0 : Nat) (s : S) (ρ' : Rho) : end1 j0 (.ret s ρ') = (liftO (ownD ρ' j0) >>= fun d => .ok (s, d)) := rfl
theorem end1_n (j0 : Nat) (ρ' : Rho) : end1 j0 (.next ρ') = (liftO (ownD ρ' j0) >>= fun d => .ok (.v .non, d)) := rfl
def run1 (j0 m : Nat) (f : Sx) : Fn1 := fun ds => f (rho1 j0 ds ++ List.replicate m none) >>= end1 j0
theorem rho1_len : ∀ (j : Nat) (ds : List D), (rho1 j ds).length = ds.length
  | _, [] => by simp [rho1]
  | 0, d :: ds => by simp [rho1]
  | j + 1, d :: ds => by simp [rho1, rho1_len j ds]
theorem rho1_get : ∀ (j : Nat) (ds : List D) (i : Nat), (rho1 j ds)[i]? = ds[i]?.map fun d => some (if i = j then .o d else .v d)
  | _, [], i => by simp [rho1]
  | 0, d :: ds, 0 => by simp [rho1]
  | 0, d :: ds, i + 1 => by simp [rho1]
  | j + 1, d :: ds, 0 => by simp [rho1]
  | j + 1, d :: ds, i + 1 => by
    rw [rho1, List.getElem?_cons_succ, List.getElem?_cons_succ, rho1_get j ds i]
    by_cases h : i = j <;> simp [h]
theorem rho1_some {j m i : Nat} {ds : List D} {s : S} (h : (rho1 j ds ++ List.replicate m none)[i]? = some (some s)) : ∃ d, ds[i]? = some d ∧ s = if i = j then .o d else .v d := by
  rcases Nat.lt_or_ge i (rho1 j ds).length with hi | hi
  · rw [List.getElem?_append_left hi, rho1_get] at h
    cases hd : ds[i]? with
    | none => rw [hd] at h; cases h
    | some d => rw [hd] at h; cases h; exact ⟨d, rfl, rfl⟩
  · rw [List.getElem?_append_right hi, List.getElem?_replicate] at h
    split at h <;> cases h
theorem start_get {N : List Str} {vs : List V} {i : Nat} {x : V} (h : vs[i]? = some x) : (L2.start N vs)[i]? = some (some x) := by
  have hi : i < vs.length := by
    rcases Nat.lt_or_ge i vs.length with z | z
    · exact z
    · rw [List.getElem?_eq_none z] at h; cases h
  unfold L2.start
  rw [List.getElem?_append_left (by simpa using hi), List.getElem?_map, h]
  rfl
theorem fn1_ok {P : Program} {w : World} {K : PySem.W.Frag} {mg : Str → Option Value} {base : Heap} {x qual : Str} {st : Stmt} {fa : Addr} {fd : FuncData} {N ps : List Str} {k n m j0 : Nat} {f : Sx} (F : L2.Fun K x qual st fa fd) (S : FnScope N ps (defScope st)) (hn : ps.length = n) (hm : N.length = n + m)
    (hb : ∀ H0 a, SsOk ⟨P, w, K, mg, base, N, defScope st, fun _ => true, k, H0, [(j0, a)]⟩ (defBody st) f) : FnOk P w K mg base (L2.CX P w) (k + 1) fa fd ps (sp1 K n j0 (run1 j0 m f)) := by
  refine F.okX S (fun vs H Q E ⟨ds, a, d, h1, h2, _⟩ => by rw [h2, hn]) (fun cdv A outer s H vs Q E hr ⟨ds, a, d, h1, h2, hd, hv, ho, hi, h3⟩ => ?_)
  have AA : AtS ⟨P, w, K, mg, base, N, defScope st, fun _ => true, k, H, [(j0, a)]⟩ (cxOf (L2.CX P w) P w K mg base N qual (defScope st) fa cdv A outer s H E) :=
    { prog := rfl, w := rfl, K := rfl, mg := rfl, base := rfl, N := rfl, sc := rfl, fn := fun _ _ => rfl, room := hr, calm := rfl, own := passes_of rfl, stk := rfl, fr := rfl }
  have R0 : ER K ⟨P, w, K, mg, base, N, defScope st, fun _ => true, k, H, [(j0, a)]⟩ (rho1 j0 ds ++ List.replicate m none) (L2.start N vs) H := by
    refine ⟨?_, fun i d' e => ?_, fun i d' e => ?_, fun i j e => ?_, fun i j d1 d2 b e1 e2 e3 e4 => ?_, fun b o h _ => h, fun i d' b e1 e2 => ?_, fun p hp => ?_⟩
    · simp only [L2.start, List.length_append, List.length_map, List.length_replicate, rho1_len, h1, h2, hm]; omega
    · obtain ⟨d1, h4, h5⟩ := rho1_some e
      by_cases hij : i = j0
      · rw [if_pos hij] at h5; cases h5
      · rw [if_neg hij] at h5; cases h5
        obtain ⟨y, h6, h7⟩ := hi i _ hij h4
        exact ⟨y, start_get h6, h7⟩
    · obtain ⟨d1, h4, h5⟩ := rho1_some e
      by_cases hij : i = j0
      · rw [if_pos hij] at h5; cases h5
        subst hij
        rw [hd] at h4; cases h4
        exact ⟨a, start_get hv, ho⟩
      · rw [if_neg hij] at h5; cases h5
    · obtain ⟨d1, h4, h5⟩ := rho1_some e
      split at h5 <;> cases h5
    · obtain ⟨_, _, h5⟩ := rho1_some e1
      obtain ⟨_, _, h6⟩ := rho1_some e2
      by_cases hi1 : i = j0
      · by_cases hj1 : j = j0
        · rw [hi1, hj1]
        · rw [if_neg hj1] at h6; cases h6
      · rw [if_neg hi1] at h5; cases h5
    · obtain ⟨_, _, h5⟩ := rho1_some e1
      by_cases hi1 : i = j0
      · subst hi1
        rw [start_get hv] at e2
        cases e2
        exact .inr (List.mem_singleton_self _)
      · rw [if_neg hi1] at h5; cases h5
    · cases List.mem_singleton.mp hp
      refine ⟨start_get hv, d, ?_⟩
      rw [List.getElem?_append_left (by rw [rho1_len]; exact (List.getElem?_eq_some_iff.mp hd).1), rho1_get, hd]
      simp
  refine ⟨_, hb H a _ (fun cls d _ H' => E cls d H') AA (takes_of rfl rfl rfl rfl), ⟨_, R0, ?_⟩⟩
  have same : ∀ {ρ' : Rho} {σ' : L2.St} {H' : Hp}, ER K ⟨P, w, K, mg, base, N, defScope st, fun _ => true, k, H, [(j0, a)]⟩ ρ' σ' H' → (∀ b o, b ≠ a → H b = some o → H' b = some o) := fun {ρ' σ' H'} R b o hb e => R.old b o e (fun p hp => by cases List.mem_singleton.mp hp; exact Ne.symm hb)
  have own : ∀ {ρ' : Rho} {σ' : L2.St} {H' : Hp} {d2 : D}, ER K ⟨P, w, K, mg, base, N, defScope st, fun _ => true, k, H, [(j0, a)]⟩ ρ' σ' H' → ownD ρ' j0 = some d2 → OwnAt K H' a d2 := fun {ρ' σ' H' d2} R h => by
    obtain ⟨b, h4, h5⟩ := R.own j0 d2 (ownD_is h)
    obtain ⟨h6, _⟩ := R.io (j0, a) (List.mem_singleton_self _)
    rw [h6] at h4; cases h4
    exact h5
  unfold run1 at h3
  cases hf : f (rho1 j0 ds ++ List.replicate m none) with
  | stuck => rw [hf] at h3; exact h3.elim
  | exc c ρ1 => rw [hf] at h3; exact h3.elim
  | ok r =>
    rw [hf] at h3
    cases r with
    | next ρ' =>
      rw [bind_ok, end1_n] at h3
      cases hw : ownD ρ' j0 with
      | none => rw [hw] at h3; exact h3.elim
      | some d2 => rw [hw] at h3; exact fun σ' H' e' R => h3 H' .non e' (same R) (own R hw) rfl
    | ret z ρ' =>
      rw [bind_ok, end1_r] at h3
      cases hw : ownD ρ' j0 with
      | none => rw [hw] at h3; exact h3.elim
      | some d2 => rw [hw] at h3; exact fun σ' H' y e' R b => h3 H' y e' (same R) (own R hw) (br_rs rfl b)
    | brk ρ' => exact h3.elim
    | cnt ρ' => exact h3.elim
/-- arguments, the j-th one by its slot -/
def fzX (l : List Nat) : Nat → List S → Rho → Out (List D × Nat × Rho)
  | _, [], _ => .stuck
  | 0, .b i :: ss, ρ => fzL l ss ρ >>= fun q => .ok (.non :: q.1, i, q.2)
  | 0, _ :: _, _ => .stuck
  | j + 1, s :: ss, ρ => fz l s ρ >>= fun p => fzX l j ss p.2 >>= fun q => .ok (p.1 :: q.1, q.2.1, q.2.2)
theorem fzX_s (l : List Nat) (j : Nat) (s : S) (ss : List S) (ρ : Rho) : fzX l (j + 1) (s :: ss) ρ = (fz l s ρ >>= fun p => fzX l j ss p.2 >>= fun q => .ok (p.1 :: q.1, q.2.1, q.2.2)) := by cases s <;> rfl
theorem fzX_ok {X : Cx} {g : Cf} {pins : List (Addr × Obj)} {σ : L2.St} {s : Shared} : ∀ {j : Nat} {zs : List S} {xs : List V} {H : Hp} {ρ ρ' : Rho} {ds : List D} {i : Nat}, Inv X pins σ H s → ER X.K g ρ σ H → NRL X.K σ H zs xs → fzX g.ios j zs ρ = .ok (ds, i, ρ') →
    ∃ H', Inv X pins σ H' s ∧ ER X.K g ρ' σ H' ∧ Ext H H' ∧ (∃ x, xs[j]? = some x ∧ σ[i]? = some (some x)) ∧ xs.length = ds.length ∧ j < ds.length ∧ ∀ k d, k ≠ j → ds[k]? = some d → ∃ x, xs[k]? = some x ∧ Imm X.K H' d x
  | j, [], xs, H, ρ, ρ', ds, i, I, R, n, h => by cases j <;> cases h
  | 0, z :: zs, xs, H, ρ, ρ', ds, i, I, R, ⟨y, r, h1, h2, h3⟩, h => by
    subst h1
    cases z with
    | v d => cases h
    | o d => cases h
    | b i' =>
      unfold fzX at h
      obtain ⟨q, hq, h⟩ := bind_is h
      cases h
      obtain ⟨H1, I1, R1, E1, im⟩ := fzL_ok I R h3 (ds := q.1) (ρ' := q.2) hq
      refine ⟨H1, I1, R1, E1, ⟨y, rfl, h2⟩, by rw [List.length_cons, List.length_cons, im.len], by simp, fun k d hk hd => ?_⟩
      cases k with
      | zero => exact absurd rfl hk
      | succ k =>
        rw [List.getElem?_cons_succ] at hd ⊢
        exact im.get' hd
  | j + 1, z :: zs, xs, H, ρ, ρ', ds, i, I, R, ⟨y, r, h1, h2, h3⟩, h => by
    subst h1
    rw [fzX_s] at h
    obtain ⟨p, hp, h⟩ := bind_is h
    obtain ⟨q, hq, h⟩ := bind_is h
    cases h
    obtain ⟨H1, I1, R1, E1, im⟩ := fz_ok I R h2 (d := p.1) (ρ' := p.2) hp
    obtain ⟨H2, I2, R2, E2, ⟨x, hx1, hx2⟩, hl, hj, hk⟩ := fzX_ok I1 R1 (NRL.ext E1 h3) (ds := q.1) (i := q.2.1) (ρ' := q.2.2) hq
    refine ⟨H2, I2, R2, E1.trans E2, ⟨x, by simpa using hx1, hx2⟩, by rw [List.length_cons, List.length_cons, hl], by rw [List.length_cons]; omega, fun k d hkj hd => ?_⟩
    cases k with
    | zero =>
      rw [List.getElem?_cons_zero] at hd
      cases hd
      exact ⟨y, rfl, Imm.ext E2 _ _ im⟩
    | succ k =>
      rw [List.getElem?_cons_succ] at hd ⊢
      exact hk k d (fun z => hkj (by rw [z])) hd
theorem fzX_noexc {l : List Nat} : ∀ {j : Nat} {ss : List S} {ρ ρ' : Rho} {c : Str}, fzX l j ss ρ = .exc c ρ' → False
  | j, [], _, _, _, h => by cases j <;> cases h
  | 0, z :: ss, ρ, ρ', c, h => by
    cases z with
    | v d => cases h
    | o d => cases h
    | b i =>
      unfold fzX at h
      cases hs : fzL l ss ρ with
      | stuck => rw [hs] at h; cases h
      | exc c ρ' => exact fzL_noexc hs
      | ok p => rw [hs] at h; cases h
  | j + 1, z :: ss, ρ, ρ', c, h => by
    rw [fzX_s] at h
    cases hs : fz l z ρ with
    | stuck => rw [hs] at h; cases h
    | exc c ρ' => exact fz_noexc hs
    | ok p =>
      rw [hs, bind_ok] at h
      cases hr : fzX l j ss p.2 with
      | stuck => rw [hr] at h; cases h
      | exc c ρ' => exact fzX_noexc hr
      | ok q => rw [hr] at h; cases h
structure Cal1 (g : Cf) (x : Str) (n j0 : Nat) (F : Fn1) : Prop where
  ex : ∃ (f : Addr) (fd : FuncData) (ps : List Str), FnOk g.prog g.w g.K g.mg g.base (L2.CX g.prog g.w) g.k f fd ps (sp1 g.K n j0 F) ∧ g.mg x = some (.ref f) ∧ PySem.W.keepIn g.K (.ref f) = true ∧ Binds g.K fd ps []
def eCall1 (l : List Nat) (n j0 : Nat) (F : Fn1) (fa : Ax) : Ex := fun ρ => fa ρ >>= fun p => fzX l j0 p.1 p.2 >>= fun q => liftO (ownD q.2.2 q.2.1) >>= fun d => if q.1.length = n then F (q.1.set j0 d) >>= fun r => .ok (r.1, putO q.2.2 q.2.1 r.2) else .stuck
section
variable {g : Cf} {X : Cx} {e a b c : Expr} {es : List Expr} {pos : Pos} {K : PySem.W.Frag} {W : WX}
/-- from a wish behind F: F comes to an end, without raising -/
theorem Pst.ok1 {β γ : Type} {σ : L2.St} {H : Hp} {G : β → Hp → Prop} {F : Out γ} {k : γ → Out β} (hn : ∀ c ρ, F = .exc c ρ → False) (q : Pst K g σ H W G (F >>= k)) : ∃ r, F = .ok r ∧ Pst K g σ H W G (k r) := by
  cases hF : F with
  | stuck => rw [hF] at q; exact q.elim
  | exc c ρ => exact (hn c ρ hF).elim
  | ok r => rw [hF] at q; exact ⟨r, rfl, q⟩
def noX : Out (S × D) → Out (S × D)
  | .ok r => .ok r
  | _ => .stuck
theorem e_call1 {x : Str} {p : Pos} {n j0 : Nat} {F : Fn1} {fa : Ax} (hc : Cal1 g x n j0 F) (ha : AOk g (e :: es) fa) (hg : Glo g x := by rfl) (hdb : (x == ("__debug__" : Str)) = false := by decide)
    (he : ∀ env, starEach (e :: es) env = (false, eval e env) :: starEach es env := by intro _; rfl) (hpl : ∀ env, (backTo pos (starEach es env)).any (·.1) = false := by intro _; rfl) : EOk g (.Call (.Name x p) (e :: es) [] pos) (eCall1 g.ios n j0 (fun ds => noX (F ds)) fa) := fun X W A tk => by
  obtain ⟨f, fd, ps, h1, h2, h3, h4⟩ := hc.ex
  have h1' : FnOk X.prog X.w X.K X.mg X.base (L2.CX X.prog X.w) g.k f fd ps (sp1 X.K n j0 F) := by rw [A.prog, A.w, A.K, A.mg, A.base]; exact h1
  -- the arguments, mixed
  let tM : TA := fun σ H Q => ∃ ρ, ER X.K g ρ σ H ∧ Pst X.K g σ H W (fun (q : List D × Nat × Rho) H' => ER X.K g q.2.2 σ H' → ∀ xs, (∃ x, xs[j0]? = some x ∧ σ[q.2.1]? = some (some x)) → xs.length = q.1.length → j0 < q.1.length → (∀ k d, k ≠ j0 → q.1[k]? = some d → ∃ x, xs[k]? = some x ∧ Imm X.K H' d x) → Q xs H') (fa ρ >>= fun p => fzX g.ios j0 p.1 p.2)
  have hM : PA X (e :: es) tM := by
    refine ⟨fun pos pins s σ H Q I ⟨ρ, R, q⟩ => ?_⟩
    cases hfa : fa ρ with
    | stuck => rw [hfa] at q; exact q.elim
    | exc c ρ' =>
      rw [hfa] at q
      exact (ha X W A tk).run pos pins s σ H Q I ⟨ρ, R, by rw [hfa]; exact q⟩
    | ok p =>
      rw [hfa, bind_ok] at q
      refine thn ((ha X W A tk).run pos pins s σ H (fun xs H1 => ER X.K g p.2 σ H1 ∧ Ext H H1 ∧ NRL X.K σ H1 p.1 xs) I ⟨ρ, R, by rw [hfa]; exact fun H' b a x c => ⟨a, b, c⟩⟩) fun us s1 ⟨xs, H1, I1, r1, R1, e1, nr⟩ => ?_
      cases hz : fzX g.ios j0 p.1 p.2 with
      | stuck => rw [hz] at q; exact q.elim
      | exc c ρ' => exact (fzX_noexc hz).elim
      | ok z =>
        obtain ⟨ds, i, ρ'⟩ := z
        rw [hz] at q
        obtain ⟨H2, I2, R2, E2, hx, hl, hj, hk⟩ := fzX_ok I1 R1 nr hz
        exact ⟨xs, H2, I2, r1, q H2 (e1.trans E2) R2 xs hx hl hj hk⟩
  refine PE.imp (pe_callS h1' A.room (hg.gl A) (by rw [A.mg]; exact h2) (by rw [A.K]; exact h3) (by rw [A.K]; exact h4) (fun σ => passAt tk σ) hM hdb (he _) (hpl _)) fun σ H Q ⟨ρ, R, q⟩ => ⟨ρ, R, ?_⟩
  unfold eCall1 at q
  cases hfa : fa ρ with
  | stuck => rw [hfa] at q; exact q.elim
  | exc c ρ' => rw [hfa] at q; exact q
  | ok p =>
    rw [hfa, bind_ok] at q
    rw [bind_ok]
    cases hz : fzX g.ios j0 p.1 p.2 with
    | stuck => rw [hz] at q; exact q.elim
    | exc c ρ' => exact (fzX_noexc hz).elim
    | ok z =>
      obtain ⟨ds, i, ρ'⟩ := z
      rw [hz, bind_ok] at q
      intro H1 E1 R1 xs ⟨x, hx1, hx2⟩ hl hj hk
      obtain ⟨d, hd, q2⟩ := q.opt
      split at q2
      case isFalse => exact q2.elim
      rename_i hlen
      have hi := ownD_is hd
      obtain ⟨ad, ha1, ho⟩ := R1.own i d hi
      rw [hx2] at ha1
      cases ha1
      refine ⟨ds.set j0 d, ad, d, by rw [List.length_set]; exact hlen, by rw [hl]; exact hlen, List.getElem?_set_self hj, hx1, ho, fun k d' hkj hd' => ?_, ?_⟩
      · rw [List.getElem?_set_ne (Ne.symm hkj)] at hd'
        exact hk k d' hkj hd'
      · cases hF : F (ds.set j0 d) with
        | stuck => simp only [hF, noX] at q2; exact q2.elim
        | exc c ρ2 => simp only [hF, noX] at q2; exact q2.elim
        | ok r =>
          obtain ⟨s, d2⟩ := r
          simp only [hF, noX, bind_ok] at q2
          intro H' y E2 keep o2 rs
          have R2 := R1.putW hi hx2 keep E2 o2
          refine q2 H' (E1.trans E2) R2 y ?_
          cases s with
          | v d' => exact rs
          | o d' =>
            obtain ⟨b, e1, h0, h5⟩ := rs
            refine ⟨b, e1, h5, fun ⟨j, dj, k1, k2⟩ => ?_, not_old R1 h0⟩
            have : ∃ dk : D, ρ'[j]? = some (some (S.o dk)) := by
              unfold putO at k1
              by_cases hj : j = i
              · subst hj; exact ⟨d, hi⟩
              · rw [List.getElem?_set_ne (Ne.symm hj)] at k1; exact ⟨_, k1⟩
            obtain ⟨dk, k3⟩ := this
            exact not_own R1 h0 ⟨j, dk, k3, k2⟩
          | b j => exact rs.elim
end
structure Cal01 (P : Program) (w : World) (K : PySem.W.Frag) (mg : Str → Option Value) (base : Heap) (k : Nat) (x : Str) (n j0 : Nat) (F : Fn1) : Prop where
  ex : ∃ (f : Addr) (fd : FuncData) (ps : List Str), FnOk P w K mg base (L2.CX P w) k f fd ps (sp1 K n j0 F) ∧ mg x = some (.ref f) ∧ PySem.W.keepIn K (.ref f) = true ∧ Binds K fd ps []
theorem Cal01.cal {P : Program} {w : World} {K : PySem.W.Frag} {mg : Str → Option Value} {base : Heap} {j k : Nat} {x : Str} {n j0 : Nat} {F : Fn1} (h : Cal01 P w K mg base j x n j0 F) (hk : j ≤ k) {N : List Str} {sc : Scope} {fn : Str → Bool} {H0 : Hp} {io : List (Nat × Addr)} : Cal1 ⟨P, w, K, mg, base, N, sc, fn, k, H0, io⟩ x n j0 F := by
  obtain ⟨f, fd, ps, h1, h2⟩ := h.ex
  exact ⟨f, fd, ps, h1.mono hk, h2⟩
theorem Cal01.of {P : Program} {w : World} {K : PySem.W.Frag} {mg : Str → Option Value} {base : Heap} {k : Nat} {x : Str} {n m j0 : Nat} {f : Sx} {st : Stmt} {N ps : List Str} (T : FnT K mg x st ps) (S : FnScope N ps (defScope st)) (hn : ps.length = n) (hm : N.length = n + m)
    (hb : ∀ H0 a, SsOk ⟨P, w, K, mg, base, N, defScope st, fun _ => true, k, H0, [(j0, a)]⟩ (defBody st) f) : Cal01 P w K mg base (k + 1) x n j0 (run1 j0 m f) := by
  obtain ⟨fa, fd, h1, h2, h3, h4⟩ := T
  exact ⟨fa, fd, ps, fn1_ok h2 S hn hm hb, h1, h3, h4⟩
end PL

namespace PL
open PySem PySem.Spec PyProof.Rows L2
section
variable {g : Cf} {X : Cx} {e a b c o f : Expr} {es : List Expr} {pos : Pos}
/-! ### more of dicts -/
def eDNew (t : Bool) : Ex := fun ρ => .ok (.o (.dic t []), ρ)
theorem e_dnewK : EOk g (.Dict [] [] pos) (eDNew false) := fun X W A tk =>
  PE.imp pe_dnewK fun σ H Q ⟨ρ, R, q⟩ => fun p hp => q _ (Ext.of_same (new_tup (K := X.K) hp)) (R.same (new_tup (K := X.K) hp)) _ ⟨p, rfl, ⟨_, upd_same, rfl⟩, not_own R hp, not_old R hp⟩
theorem e_dnewT : EOk g (.Dict [] [] pos) (eDNew true) := fun X W A tk =>
  PE.imp pe_dnewT fun σ H Q ⟨ρ, R, q⟩ => fun p hp => q _ (Ext.of_same (new_tup (K := X.K) hp)) (R.same (new_tup (K := X.K) hp)) _ ⟨p, rfl, ⟨_, upd_same, rfl⟩, not_own R hp, not_old R hp⟩
def dGet (d k : D) : Option (Option D) := match d with
  | .dic t kvs => (kOf t k).map (gGet t kvs)
  | _ => none
def isDic : D → Option Unit
  | .dic _ _ => some ()
  | _ => none
def eGet2 (l : List Nat) (fo fk fx : Ex) : Ex := fun ρ => fo ρ >>= fun p => PL.pk p.2 p.1 >>= fun d0 => liftO (isDic d0) >>= fun _ => fk p.2 >>= fun q => eF l fx q.2 >>= fun r => PL.pk r.2 p.1 >>= fun d => PL.pk r.2 q.1 >>= fun k => liftO (dGet d k) >>= fun o => .ok (.v (o.getD r.1), r.2)
def eGet1 (fo fk : Ex) : Ex := fun ρ => fo ρ >>= fun p => PL.pk p.2 p.1 >>= fun d0 => liftO (isDic d0) >>= fun _ => fk p.2 >>= fun q => PL.pk q.2 p.1 >>= fun d => PL.pk q.2 q.1 >>= fun k => liftO (dGet d k) >>= fun o => .ok (.v (o.getD .non), q.2)
theorem isDic_is {d : D} {u : Unit} (h : isDic d = some u) : ∃ t kvs, d = .dic t kvs := by
  cases d <;> first | exact ⟨_, _, rfl⟩ | cases h
theorem dGet_is {K : PySem.W.Frag} {H : Hp} {d k : D} {x y : V} {od : Option D} (h : dGet d k = some od) (r1 : Rd K H d x) (r2 : Rd K H k y) : ∃ a o, x = .ref a ∧ DGet H a y o ∧ ImmO K H od o := by
  unfold dGet at h
  split at h
  · rename_i t kvs
    cases e : kOf t k with
    | none => rw [e] at h; cases h
    | some kk => rw [e] at h; cases h; exact dget_of r1 r2 e
  · cases h
theorem ImmO.getD {K : PySem.W.Frag} {H : Hp} {d : D} {z : V} : ∀ {od : Option D} {o : Option V}, ImmO K H od o → Imm K H d z → Imm K H (od.getD d) (o.getD z)
  | none, _, h, im => by cases (show _ = _ from h); exact im
  | some d', _, ⟨v, e, h⟩, im => by subst e; exact h
theorem e_get2 {apos cpos : Pos} {fo fk fx : Ex} (ho : EOk g o fo) (hk : EOk g e fk) (hx : EOk g f fx) (hm : ∀ X : Cx, M2 X o "get" apos e f cpos := by intro X; exact ⟨rfl, rfl, rfl, rfl⟩) : EOk g (.Call (.Attribute o "get" apos) [e, f] [] cpos) (eGet2 g.ios fo fk fx) := fun X W A tk => by
  refine PE.imp (pe_dget2 (by have := A.room.un; omega) (ho.n A tk) (hk.n A tk) (hx.f A tk) (hm X)) fun σ H Q ⟨ρ, R, q⟩ => ?_
  refine tN_step R q fun s1 ρ1 x H1 R1 E1 n1 q1 => ?_
  obtain ⟨d0, h0, q2⟩ := q1.pk
  obtain ⟨u, hu, q3⟩ := q2.opt
  obtain ⟨t, kvs, rfl⟩ := isDic_is hu
  obtain ⟨a, rfl, isd⟩ := isD_of (pk_rd n1 R1 (Ext.refl _) h0)
  refine ⟨a, rfl, isd, tN_step R1 q3 fun s2 ρ2 y H2 R2 E2 n2 q4 => tF_step R2 q4 fun d3 ρ3 z H3 R3 E3 im q5 => ?_⟩
  obtain ⟨d, h1, q6⟩ := q5.pk
  obtain ⟨k, h2, q7⟩ := q6.pk
  obtain ⟨od, h3, q8⟩ := q7.opt
  obtain ⟨a', o, ea, h4, h5⟩ := dGet_is h3 (pk_rd n1 R3 (E2.trans E3) h1) (pk_rd n2 R3 E3 h2)
  cases ea
  exact ⟨o, h4, q8 H3 (Ext.refl _) R3 _ (h5.getD im)⟩
theorem e_get1 {apos cpos : Pos} {fo fk : Ex} (ho : EOk g o fo) (hk : EOk g e fk) (hm : ∀ X : Cx, M1 X o "get" apos e cpos := by intro X; exact ⟨rfl, rfl, rfl, rfl⟩) : EOk g (.Call (.Attribute o "get" apos) [e] [] cpos) (eGet1 fo fk) := fun X W A tk => by
  refine PE.imp (pe_dget1 (by have := A.room.un; omega) (ho.n A tk) (hk.n A tk) (hm X)) fun σ H Q ⟨ρ, R, q⟩ => ?_
  refine tN_step R q fun s1 ρ1 x H1 R1 E1 n1 q1 => ?_
  obtain ⟨d0, h0, q2⟩ := q1.pk
  obtain ⟨u, hu, q3⟩ := q2.opt
  obtain ⟨t, kvs, rfl⟩ := isDic_is hu
  obtain ⟨a, rfl, isd⟩ := isD_of (pk_rd n1 R1 (Ext.refl _) h0)
  refine ⟨a, rfl, isd, tN_step R1 q3 fun s2 ρ2 y H2 R2 E2 n2 q5 => ?_⟩
  obtain ⟨d, h1, q6⟩ := q5.pk
  obtain ⟨k, h2, q7⟩ := q6.pk
  obtain ⟨od, h3, q8⟩ := q7.opt
  obtain ⟨a', o, ea, h4, h5⟩ := dGet_is h3 (pk_rd n1 R2 E2 h1) (pk_rd n2 R2 (Ext.refl _) h2)
  cases ea
  exact ⟨o, h4, q8 H2 (Ext.refl _) R2 _ (h5.getD rfl)⟩
end
end PL

namespace PL
open PySem PySem.Spec PyProof.Rows L2
/-! ### sorted -/
def leI (a b : Int) : Bool := decide (a ≤ b)
def srtI (ns : List Int) : List Int := ns.mergeSort leI
theorem srtI_le (ns : List Int) : (srtI ns).Pairwise (· ≤ ·) := by
  have h := List.pairwise_mergeSort (le := leI) (fun a b c h1 h2 => by unfold leI at *; simp at *; omega) (fun a b => by unfold leI; simp; omega) ns
  exact h.imp fun e => by unfold leI at e; simpa using e
theorem srtI_perm (ns : List Int) : (srtI ns).Perm ns := List.mergeSort_perm ns leI
theorem srtI_eq {ns ys : List Int} (p : ys.Perm ns) (s : ys.Pairwise (· ≤ ·)) : ys = srtI ns :=
  List.Perm.eq_of_pairwise (fun a b _ _ h1 h2 => Int.le_antisymm h1 h2) s (srtI_le ns) (p.trans (srtI_perm ns).symm)
def leT (a b : Str) : Bool := decide (a.cps.toList ≤ b.cps.toList)
def srtS (ns : List Str) : List Str := ns.mergeSort leT
theorem leT_trans {a b c : Str} (h1 : leT a b = true) (h2 : leT b c = true) : leT a c = true := by
  unfold leT at *
  simp only [decide_eq_true_eq] at *
  exact List.le_trans h1 h2
theorem leT_anti {a b : Str} (h1 : leT a b = true) (h2 : leT b a = true) : a = b := by
  unfold leT at *
  simp only [decide_eq_true_eq] at *
  have e := List.le_antisymm h1 h2
  cases a; cases b
  simp only [Str.mk.injEq]
  exact Array.ext' e
theorem srtS_le (ns : List Str) : (srtS ns).Pairwise (fun a b => leT a b = true) :=
  List.pairwise_mergeSort (le := leT) (fun a b c h1 h2 => leT_trans h1 h2) (fun a b => by
    unfold leT
    rcases List.le_total a.cps.toList b.cps.toList with h | h
    · simp [h]
    · simp [h]) ns
theorem srtS_perm (ns : List Str) : (srtS ns).Perm ns := List.mergeSort_perm ns leT
theorem leT_of {a b : Str} (h : ltCps b.cps.toList a.cps.toList = false) : leT a b = true := by
  rw [ltCps_eq] at h
  unfold leT
  simpa using h
theorem rising_le : ∀ {p : Str} {l : List Str}, risingS p l = true → (p :: l).Pairwise (fun a b => leT a b = true)
  | p, [], _ => by simp
  | p, x :: r, h => by
    unfold risingS at h
    rw [Bool.and_eq_true] at h
    have h1 := leT_of (by simpa using h.1)
    have ih := rising_le h.2
    refine List.pairwise_cons.mpr ⟨fun y hy => ?_, ih⟩
    rcases List.mem_cons.mp hy with e | hy
    · subst e; exact h1
    · exact leT_trans h1 (List.rel_of_pairwise_cons ih hy)
theorem sorted_le : ∀ {l : List Str}, sortedS l = true → l.Pairwise (fun a b => leT a b = true)
  | [], _ => List.Pairwise.nil
  | x :: r, h => rising_le h
theorem srtS_eq {ns ys : List Str} (p : ys.Perm ns) (s : sortedS ys = true) : ys = srtS ns :=
  List.Perm.eq_of_pairwise (fun a b _ _ h1 h2 => leT_anti h1 h2) (sorted_le s) (srtS_le ns) (p.trans (srtS_perm ns).symm)
/-! ### the rule -/
def strsD : List D → Option (List Str)
  | [] => some []
  | .str i :: ds => (strsD ds).map (i :: ·)
  | _ :: _ => none
theorem immL_strs {K : PySem.W.Frag} {H : Hp} : ∀ {ds : List D} {vs : List V} {ns : List Str}, ImmL K H ds vs → strsD ds = some ns → vs = ns.map V.str
  | [], _, _, h, e => by cases (show _ = _ from h); cases e; rfl
  | d :: ds, _, ns, ⟨v, r, e1, h1, h2⟩, e => by
    cases d with
    | str i =>
      unfold strsD at e
      cases e2 : strsD ds with
      | none => rw [e2] at e; cases e
      | some ns' =>
        rw [e2] at e
        cases e
        rw [e1, immL_strs h2 e2, (show v = V.str i from h1)]
        rfl
    | _ => cases e
theorem immL_map_str {K : PySem.W.Frag} {H : Hp} : ∀ ns : List Str, ImmL K H (ns.map .str) (ns.map V.str)
  | [] => rfl
  | n :: ns => ⟨_, _, rfl, rfl, immL_map_str ns⟩
section
variable {X : Cx}
/-- sorted(t) of a tuple of fewer than 64 texts -/
theorem call_sortedTS : CallR X (.builtin "sorted") (fun xs H Q => ∃ (a : Addr) (zs : List Str), xs = [.ref a] ∧ SqT X.K H a (zs.map V.str) ∧ zs.length < 64 ∧
    ∀ (ys : List Str) (p : Addr), ys.Perm zs → sortedS ys = true → H p = none → Q (.ref p) (upd H p (.lst (ys.map V.str)))) := by
  intro pins s σ H xs us Q I r q
  obtain ⟨a, ks, ex, hd, h64, q⟩ := q
  subst ex
  obtain ⟨u, eu, rx⟩ := vals1 r
  subst eu
  cases rx
  obtain ⟨its, rv, ⟨o, ho, hc, n, hdt⟩, hz⟩ := I.tuple hd
  have hlen0 := rv.length
  rw [List.length_map] at hlen0
  have hS := rv.strs
  have hal : its.length = ks.length := hlen0.symm
  refine Calls.call_function_entry PyProof.Rows.kind_sorted PyProof.Rows.plain_sorted PyProof.Rows.entry_sorted (PyProof.Rows.args_sorted1 _) ?_
  unfold Builtin.«sorted»
  refine wpAny_bind (m := checkCount "sorted" 1 1 _) (wpAny_pure ?_)
  refine wpAny_bind (wpAny_collect_seq a (.inr rfl) ho hc hdt (fun h' hk => ?_) (by rw [List.size_toArray, hal, sizeLine_eq]; omega))
  have I1 : Inv X pins σ H { s with heap := h', toks := s.toks } := I.kept hk
  refine wpAny_bind (wpAny_newList ?_ (by rw [hal, sizeLine_eq]; omega))
  have hoL : (h'.push (seqObj "list" its.toArray.toList.toArray 0)).get? h'.objs.size = some (seqObj "list" its.toArray.toList.toArray 0) := Heap.get?_push_size _ rfl
  show wpAny _ _ _ _ _ { s with heap := h'.push (seqObj "list" its.toArray.toList.toArray 0), toks := s.toks }
  refine wpAny_bind (wpAny_holding (wpAny_call_entry PyProof.Rows.slot_list_sort ⟨_, hoL, rfl⟩ PyProof.Rows.entry_list_sort
    (list_sort_treeK strKind_oneLt (s := { s with heap := h'.push (seqObj "list" its.toArray.toList.toArray 0), toks := s.toks }) hoL hS.keysOf (fun v₁ v₂ rest e => keyKind_strs (by rw [← e]; exact hS)) (by rw [hal]; exact h64) fun st' hp hs => ⟨_, rfl, ?_⟩)
    (PyProof.Rows.args_list_sort _)))
  obtain ⟨ys, g1, g2, g3⟩ := sorted_out_str hS hp hs
  obtain ⟨e', he'⟩ := PyProof.Rows.sortedHeap_at (vs := its) (out := (arrOf st').map (·.2)) hoL
  have hlen : (ys.map V.str).length ≤ sizeLine := by
    rw [List.length_map, g2.length_eq]
    exact Nat.le_trans (Nat.le_of_lt h64) (by decide)
  refine wpAny_pure ⟨_, rfl, .ref h'.objs.size, upd H h'.objs.size (.lst (ys.map V.str)), I1.laid (t' := s.toks) (fun b u e => ?_) (Nat.le_refl _)
    (show ObjOk X.prog X.w _ _ _ (.lst (ys.map V.str)) from ⟨hlen, ((arrOf st').map (·.2)).toList, e', vals_of_strs g1, by rw [Array.toArray_toList]; exact he'⟩), rfl, q ys _ g2 g3 (I1.hok.fresh (Nat.le_refl _))⟩
  have hb : b < h'.objs.size := Heap.lt_size e
  rw [PyProof.Rows.sortedHeap_old (Nat.ne_of_lt hb) (by rw [size_push']; exact Nat.lt_succ_of_lt hb)]
  exact Heap.get?_push_of_some _ e
/-- sorted(t) of a tuple of fewer than 64 ints -/
theorem call_sortedTI : CallR X (.builtin "sorted") (fun xs H Q => ∃ (a : Addr) (zs : List Int), xs = [.ref a] ∧ SqT X.K H a (zs.map V.int) ∧ zs.length < 64 ∧
    ∀ (ys : List Int) (p : Addr), ys.Perm zs → ys.Pairwise (· ≤ ·) → H p = none → Q (.ref p) (upd H p (.lst (ys.map V.int)))) := by
  intro pins s σ H xs us Q I r q
  obtain ⟨a, ks, ex, hd, h64, q⟩ := q
  subst ex
  obtain ⟨u, eu, rx⟩ := vals1 r
  subst eu
  cases rx
  obtain ⟨its, rv, ⟨o, ho, hc, n, hdt⟩, hz⟩ := I.tuple hd
  have hlen0 := rv.length
  rw [List.length_map] at hlen0
  have hS := rv.ints
  have hal : its.length = ks.length := hlen0.symm
  refine Calls.call_function_entry PyProof.Rows.kind_sorted PyProof.Rows.plain_sorted PyProof.Rows.entry_sorted (PyProof.Rows.args_sorted1 _) ?_
  unfold Builtin.«sorted»
  refine wpAny_bind (m := checkCount "sorted" 1 1 _) (wpAny_pure ?_)
  refine wpAny_bind (wpAny_collect_seq a (.inr rfl) ho hc hdt (fun h' hk => ?_) (by rw [List.size_toArray, hal, sizeLine_eq]; omega))
  have I1 : Inv X pins σ H { s with heap := h', toks := s.toks } := I.kept hk
  refine wpAny_bind (wpAny_newList ?_ (by rw [hal, sizeLine_eq]; omega))
  have hoL : (h'.push (seqObj "list" its.toArray.toList.toArray 0)).get? h'.objs.size = some (seqObj "list" its.toArray.toList.toArray 0) := Heap.get?_push_size _ rfl
  show wpAny _ _ _ _ _ { s with heap := h'.push (seqObj "list" its.toArray.toList.toArray 0), toks := s.toks }
  refine wpAny_bind (wpAny_holding (wpAny_call_entry PyProof.Rows.slot_list_sort ⟨_, hoL, rfl⟩ PyProof.Rows.entry_list_sort
    (list_sort_tree (s := { s with heap := h'.push (seqObj "list" its.toArray.toList.toArray 0), toks := s.toks }) hoL hS (by rw [hal]; exact h64) fun out ys g1 g2 g3 => ⟨_, rfl, ?_⟩)
    (PyProof.Rows.args_list_sort _)))
  obtain ⟨e', he'⟩ := PyProof.Rows.sortedHeap_at (vs := its) (out := out) hoL
  have hlen : (ys.map V.int).length ≤ sizeLine := by
    rw [List.length_map, g2.length_eq]
    exact Nat.le_trans (Nat.le_of_lt h64) (by decide)
  refine wpAny_pure ⟨_, rfl, .ref h'.objs.size, upd H h'.objs.size (.lst (ys.map V.int)), I1.laid (t' := s.toks) (fun b u e => ?_) (Nat.le_refl _)
    (show ObjOk X.prog X.w _ _ _ (.lst (ys.map V.int)) from ⟨hlen, out.toList, e', vals_of_ints g1, by rw [Array.toArray_toList]; exact he'⟩), rfl, q ys _ g2 g3 (I1.hok.fresh (Nat.le_refl _))⟩
  have hb : b < h'.objs.size := Heap.lt_size e
  rw [PyProof.Rows.sortedHeap_old (Nat.ne_of_lt hb) (by rw [size_push']; exact Nat.lt_succ_of_lt hb)]
  exact Heap.get?_push_of_some _ e
end
def dSrt : List D → Option S
  | [.lst ds] => match intsD ds with
    | some ns => some (.o (.lst ((srtI ns).map .int)))
    | none => match strsD ds with
      | some zs => if zs.length < 64 then some (.o (.lst ((srtS zs).map .str))) else none
      | none => none
  | [.scr ns] => some (.o (.lst ((srtI ns).map .int)))
  | [.tup ds] => match strsD ds with
    | some zs => if zs.length < 64 then some (.o (.lst ((srtS zs).map .str))) else none
    | none => match intsD ds with
      | some ns => if ns.length < 64 then some (.o (.lst ((srtI ns).map .int))) else none
      | none => none
  | [.dic false kvs] => match strsD (kvs.map (·.1)) with
    | some zs => if zs.length < 64 then some (.o (.lst ((srtS zs).map .str))) else none
    | none => match intsD (kvs.map (·.1)) with
      | some ns => if ns.length < 64 then some (.o (.lst ((srtI ns).map .int))) else none
      | none => none
  | _ => none
theorem immK_strs {K : PySem.W.Frag} {H : Hp} : ∀ {kvs : List (D × D)} {kws : List (Key × V)} {zs : List Str}, ImmK K H kvs kws → strsD (kvs.map (·.1)) = some zs → kws.map (·.1) = zs.map Sum.inr
  | [], _, _, h, e => by cases (show _ = _ from h); cases e; rfl
  | (k, d) :: ds, _, ns, ⟨kk, v, r, e1, h0, h1, h2⟩, e => by
    subst e1
    cases k with
    | str i =>
      cases h0
      rw [List.map_cons] at e
      unfold strsD at e
      cases e2 : strsD (ds.map (·.1)) with
      | none => rw [e2] at e; cases e
      | some ns' =>
        rw [e2] at e
        cases e
        rw [List.map_cons, immK_strs h2 e2]
        rfl
    | _ => cases e
theorem immK_ints {K : PySem.W.Frag} {H : Hp} : ∀ {kvs : List (D × D)} {kws : List (Key × V)} {zs : List Int}, ImmK K H kvs kws → intsD (kvs.map (·.1)) = some zs → kws.map (·.1) = zs.map Sum.inl
  | [], _, _, h, e => by cases (show _ = _ from h); cases e; rfl
  | (k, d) :: ds, _, ns, ⟨kk, v, r, e1, h0, h1, h2⟩, e => by
    subst e1
    cases k with
    | int i =>
      cases h0
      rw [List.map_cons] at e
      unfold intsD at e
      cases e2 : intsD (ds.map (·.1)) with
      | none => rw [e2] at e; cases e
      | some ns' =>
        rw [e2] at e
        cases e
        rw [List.map_cons, immK_ints h2 e2]
        rfl
    | _ => cases e
section
variable {g : Cf} {X : Cx}
theorem c_srt (A : At g X) : CR X (.builtin "sorted") dSrt := by
  refine ⟨_, CallR.or cr_sortedI (CallR.or cr_sortedS (CallR.or (call_sortedD A.calm) (CallR.or (call_sortedDI A.calm) (CallR.or call_sortedTS call_sortedTI)))), fun xs H Q ds s p h q => ?_⟩
  have outI : ∀ (ns ys : List Int) (p : Addr), s = .o (.lst ((srtI ns).map .int)) → ys.Perm ns → ys.Pairwise (· ≤ ·) → H p = none → Q (.ref p) (upd H p (.lst (ys.map V.int))) := fun ns ys p es h1 h2 hp => by
    subst es
    rw [srtI_eq h1 h2]
    exact q _ _ (new_tup (K := X.K) hp) ⟨p, rfl, hp, _, upd_same, immL_map_int _⟩
  have outS : ∀ (ns ys : List Str) (p : Addr), s = .o (.lst ((srtS ns).map .str)) → ys.Perm ns → sortedS ys = true → H p = none → Q (.ref p) (upd H p (.lst (ys.map V.str))) := fun ns ys p es h1 h2 hp => by
    subst es
    rw [srtS_eq h1 h2]
    exact q _ _ (new_tup (K := X.K) hp) ⟨p, rfl, hp, _, upd_same, immL_map_str _⟩
  match ds, h with
  | [.lst ds], h =>
    obtain ⟨x, rfl, r⟩ := pair1 p
    obtain ⟨a, vs, rfl, s1, i1⟩ := r.lst
    simp only [dSrt] at h
    split at h
    · rename_i ns hn
      cases h
      exact .inl ⟨a, ns, rfl, by rw [← immL_ints i1 hn]; exact s1, fun ys p h1 h2 hp => outI _ ys p rfl h1 h2 hp⟩
    · split at h
      · rename_i zs hn
        split at h
        · rename_i hl
          cases h
          exact .inr (.inl ⟨a, zs, rfl, by rw [← immL_strs i1 hn]; exact s1, hl, fun ys p h1 h2 hp => outS _ ys p rfl h1 h2 hp⟩)
        · cases h
      · cases h
  | [.scr ns], h =>
    obtain ⟨x, rfl, r⟩ := pair1 p
    obtain ⟨a, rfl, s1⟩ := r.scr
    cases h
    exact .inl ⟨a, ns, rfl, s1, fun ys p h1 h2 hp => outI _ ys p rfl h1 h2 hp⟩
  | [.dic false kvs], h =>
    obtain ⟨x, rfl, r⟩ := pair1 p
    obtain ⟨a, kws, rfl, s1, i1⟩ := r.dicK
    simp only [dSrt] at h
    split at h
    · rename_i zs hn
      split at h
      · rename_i hl
        cases h
        exact .inr (.inr (.inl ⟨a, kws, zs, rfl, s1, immK_strs i1 hn, hl, fun ys p h1 h2 hp => outS _ ys p rfl h1 h2 hp⟩))
      · cases h
    · split at h
      · rename_i zs hn
        split at h
        · rename_i hl
          cases h
          exact .inr (.inr (.inr (.inl ⟨a, kws, zs, rfl, s1, immK_ints i1 hn, hl, fun ys p h1 h2 hp => outI _ ys p rfl h1 h2 hp⟩)))
        · cases h
      · cases h
  | [.tup ds], h =>
    obtain ⟨x, rfl, r⟩ := pair1 p
    obtain ⟨a, vs, rfl, s1, i1⟩ := r.tup
    simp only [dSrt] at h
    split at h
    · rename_i zs hn
      split at h
      · rename_i hl
        cases h
        exact .inr (.inr (.inr (.inr (.inl ⟨a, zs, rfl, by rw [← immL_strs i1 hn]; exact s1.seq, hl, fun ys p h1 h2 hp => outS _ ys p rfl h1 h2 hp⟩))))
      · cases h
    · split at h
      · rename_i zs hn
        split at h
        · rename_i hl
          cases h
          exact .inr (.inr (.inr (.inr (.inr ⟨a, zs, rfl, by rw [← immL_ints i1 hn]; exact s1.seq, hl, fun ys p h1 h2 hp => outI _ ys p rfl h1 h2 hp⟩))))
        · cases h
      · cases h
end
end PL

namespace PL
open PySem PySem.Spec PyProof.Rows L2
section
variable {g : Cf} {X : Cx} {e a b c o f tg : Expr} {es : List Expr} {pos : Pos}
/-! ### extend -/
def rExtR : V → List V → Hp → VK → Prop := fun x vs H Q => ∃ l b xs zs, x = .ref l ∧ vs = [.ref b] ∧ H l = some (.lst xs) ∧ L2.Rd H b (.lst zs) ∧ xs.length + zs.length ≤ sizeLine ∧ Q .non (upd H l (.lst (xs ++ zs)))
theorem mt_extR : MtR X "list.extend" rExtR := by
  intro pins s σ H x vs v us Q I rx rv h
  obtain ⟨l, b, xs, zs, rfl, rfl, hH, hB, hz, q⟩ := h
  cases rx
  obtain ⟨u, rfl, ru⟩ := rv.one
  cases ru
  obtain ⟨z, its, n, r, hl, e⟩ := I.lstM hH
  have fin : ∀ (its2 : List Value), Vals zs its2 → its.toArray.size + its2.toArray.size ≤ sizeLine → EP X pins σ Q .none { s with heap := s.heap.update l (Obj.mapSeq fun x => x ++ its2.toArray), toks := s.toks } := fun its2 r2 hsz => by
    refine ⟨.non, _, I.lset (its' := its ++ its2) hH e (by simp) (r.append r2) ?_, rfl, q⟩
    rw [List.length_append]
    omega
  · obtain ⟨z2, its2, n2, r2, e2⟩ := hB.ok I.hok
    have hl2 := r2.length
    have hsz : its.toArray.size + its2.toArray.size ≤ sizeLine := by rw [List.size_toArray, List.size_toArray]; omega
    have hlong : ¬ (!its.toArray.isEmpty && Builtin.List.listTooLong (its.toArray.size + its2.toArray.size)) = true := by
      rw [notLongL hsz, Bool.and_false]
      exact Bool.false_ne_true
    exact call_meets PySem.F.slot_list_extend ⟨_, e, rfl⟩ PySem.F.entry_list_extend (PySem.F.args_list_extend_2 _ _)
      (AutoSeq1.list_extend_list_list_0 l its.toArray n b its2.toArray n2 hlong (by rw [List.size_toArray]; omega) (by omega)) ⟨e, e2, fin its2 r2 hsz⟩
def mExtend (ls ds : List D) : Option (D × List D) := match ds with
  | [.lst zs] => if ls.length + zs.length ≤ 16777216 then some (.non, ls ++ zs) else none
  | _ => none
theorem m_extend (A : At g X) : MtR X "list.extend" rExtR ∧ MlR X rExtR mExtend := ⟨mt_extR, fun a vs xs H Q ls ds ls' z hv iv im hod q => by
  match ds, hod with
  | [.lst zs], hod =>
    obtain ⟨x, rfl, ix⟩ := immL_1 im
    simp only [mExtend] at hod
    split at hod
    · rename_i hl
      cases hod
      obtain ⟨b, ws, rfl, ⟨o, hb⟩, iw⟩ := ix
      obtain ⟨e1, e2, e3⟩ := lst_upd hv (iv.append iw)
      exact ⟨a, b, vs, ws, rfl, rfl, hv, .inr ⟨o, hb⟩, by rw [iv.len, iw.len, sizeLine_eq]; exact hl, q _ _ e1 e2 e3 rfl⟩
    · cases hod⟩
/-! ### gcd -/
def dGcd : List D → Option S
  | [.int a, .int b] => some (.v (.int (Nat.gcd a.natAbs b.natAbs : Nat)))
  | _ => none
theorem c_gcd (A : At g X) : CR X (.builtin "math.gcd") dGcd := by
  refine ⟨_, cr_gcd, fun xs H Q ds s p h q => ?_⟩
  match ds, h with
  | [.int i, .int j], h =>
    obtain ⟨x, y, rfl, r, r'⟩ := pair2 p
    cases h
    exact ⟨i, j, by rw [r.int, r'.int], q _ H (Same.refl H) rfl⟩
theorem e_cbf {x : Str} {id : String} {p : Pos} {od : List D → Option S} {fa : Ax} (hc : ∀ X, At g X → CR X (.builtin id) od) (hm : g.mg x = some (.builtin id)) (ha : AOk g (e :: es) fa) (hg : Glo g x := by rfl)
    (hdb : (x == ("__debug__" : Str)) = false := by decide)
    (he : ∀ env, starEach (e :: es) env = (false, eval e env) :: starEach es env := by intro _; rfl) (hpl : ∀ env, (backTo pos (starEach es env)).any (·.1) = false := by intro _; rfl) : EOk g (.Call (.Name x p) (e :: es) [] pos) (eB od fa) := fun X W A tk => by
  obtain ⟨r, hr, h⟩ := hc X A
  exact PE.imp (pe_callBfun hr (hg.gl A) (by rw [A.mg]; exact hm) (ha X W A tk) hdb (he _) (hpl _)) fun σ H Q t => readCB h t
/-! ### len of a dict -/
theorem len_dc : CallR X (.builtin "len") (fun xs H Q => ∃ a kvs, xs = [.ref a] ∧ L2.Rd H a (.dK kvs) ∧ Q (.int kvs.length) H) := by
  intro pins s σ H xs us Q I r h
  obtain ⟨a, kvs, rfl, hd, q⟩ := h
  obtain ⟨u, rfl, ru⟩ := r.one
  cases ru
  exact d_len I hd fun t s' I' => ⟨.int kvs.length, H, I', ⟨t, rfl⟩, q⟩
def dLen1 : List D → Option S
  | [.dic false kvs] => some (.v (.int kvs.length))
  | ds => dLen ds
theorem c_len1 (A : At g X) : CR X (.builtin "len") dLen1 := by
  obtain ⟨r, hr, h⟩ := c_len (X := X) A
  refine ⟨_, CallR.or len_dc hr, fun xs H Q ds s p hd q => ?_⟩
  unfold dLen1 at hd
  split at hd
  · rename_i kvs
    obtain ⟨x, rfl, r⟩ := pair1 p
    obtain ⟨a, kws, rfl, s1, i1⟩ := r.dicK
    cases hd
    exact .inl ⟨a, kws, rfl, s1, by rw [immK_length i1]; exact q _ H (Same.refl H) rfl⟩
  · exact .inr (h xs H Q _ s p hd q)
/-! ### range(i, j, c) -/
def rg3D (lo c : Int) (n : Nat) : List D := (List.range n).map fun k : Nat => .int (lo + k * c)
theorem it_rgc {K : PySem.W.Frag} {H : Hp} {lo c : Int} {n : Nat} : ItOk K (Itc lo c n) (rg3D lo c n) H := by
  refine ⟨fun _ => True, YFn fun i => .int (lo + i * c), ?_, trivial, fun _ _ _ g => g, fun i H1 x H2 hi _ hy => ?_⟩
  · have w := walk_rangeC (lo := lo) (c := c) (n := n)
    rw [rg3D, List.length_map, List.length_range]
    exact w
  · obtain ⟨rfl, rfl⟩ := hy
    rw [rg3D, List.length_map, List.length_range] at hi
    refine ⟨Same.refl _, .int (lo + i * c), ?_, rfl⟩
    rw [rg3D, List.getElem?_map, List.getElem?_range hi]
    rfl
def rgN (i j c : Int) : Nat := (Builtin.Range.rangeSize i j c).toNat
def int3 : List D → Option (Int × Int × Int)
  | [.int i, .int j, .int c] => if c ≠ 0 ∧ c.natAbs < 1073741824 ∧ Builtin.Range.small i j c = true ∧ 0 ≤ Builtin.Range.rangeSize i j c then some (i, j, c) else none
  | _ => none
def iRg3 (fa : Ax) : Ix := fun ρ => fa ρ >>= fun p => pkL p.2 p.1 >>= fun ds => liftO (int3 ds) >>= fun j => .ok (rg3D j.1 j.2.2 (rgN j.1 j.2.1 j.2.2), p.2)
theorem pair3 {α β : Type} {R : α → β → Prop} {d1 d2 d3 : α} {xs : List β} (h : Paired R [d1, d2, d3] xs) : ∃ x y z, xs = [x, y, z] ∧ R d1 x ∧ R d2 y ∧ R d3 z := by
  cases h with
  | cons h1 t =>
    obtain ⟨y, z, e, h2, h3⟩ := pair2 t
    subst e
    exact ⟨_, y, z, rfl, h1, h2, h3⟩
theorem i_rg3 {p : Pos} {fa : Ax} (hm : g.mg "range" = none) (ha : AOk g [a, b, c] fa) (hg : Glo g "range" := by rfl) (hs : ∀ env, starEach [a, b, c] env = (false, eval a env) :: starEach [b, c] env := by intro _; rfl)
    (hpl : ∀ env, (backTo pos (starEach [b, c] env)).any (·.1) = false := by intro _; rfl) : IOk g tg (.Call (.Name "range" p) [a, b, c] [] pos) (iRg3 fa) := fun X W A tk => by
  refine PI.imp (pi_range3 (hg.gl A) (by rw [A.mg]; exact hm) (ha X W A tk) (hs _) (hpl _)) fun σ H Q ⟨ρ, R, q⟩ => tA_step R q fun ss ρ1 xs H1 R1 E1 n1 q1 => ?_
  obtain ⟨ds, h1, q3⟩ := q1.pkL
  obtain ⟨j, ho, q5⟩ := q3.opt
  have pr := pkL_rd R1 n1 h1
  match ds, ho with
  | [.int i', .int j', .int k'], ho =>
    obtain ⟨x, y, z, rfl, r, r', r''⟩ := pair3 pr
    simp only [int3] at ho
    split at ho
    · rename_i hz
      cases ho
      exact ⟨i', j', k', rgN i' j' k', by rw [r.int, r'.int, r''.int], ⟨hz.1, hz.2.1, hz.2.2.1, (Int.toNat_of_nonneg hz.2.2.2).symm⟩, q5 H1 (Ext.refl _) R1 _ it_rgc⟩
    · cases ho
/-! ### d.values(), d.items() -/
def dVals : D → Option (List D)
  | .dic false kvs => some (kvs.map (·.2))
  | _ => none
def dItems : D → Option (List D)
  | .dic false kvs => some (kvs.map fun p => .tup [p.1, p.2])
  | _ => none
theorem dVals_is {d : D} {ds : List D} (h : dVals d = some ds) : ∃ kvs, d = .dic false kvs ∧ ds = kvs.map (·.2) := by
  unfold dVals at h
  split at h
  · cases h; exact ⟨_, rfl, rfl⟩
  · cases h
theorem dItems_is {d : D} {ds : List D} (h : dItems d = some ds) : ∃ kvs, d = .dic false kvs ∧ ds = kvs.map fun p => .tup [p.1, p.2] := by
  unfold dItems at h
  split at h
  · cases h; exact ⟨_, rfl, rfl⟩
  · cases h
def Rd0 (K : PySem.W.Frag) (H : Hp) (kvs : List (D × D)) (x : V) : Prop := ∃ a o kws, x = .ref a ∧ H a = some (.frz o (.dK kws)) ∧ ImmK K H kvs kws
theorem it_vals {K : PySem.W.Frag} {H : Hp} {kvs : List (D × D)} {kws : List (Key × V)} {a : Addr} {o : Obj} (h1 : H a = some (.frz o (.dK kws))) (h2 : ImmK K H kvs kws) : ItOk K (Itd a o kws) (kvs.map (·.2)) H := by
  refine ⟨fun H => H a = some (.frz o (.dK kws)) ∧ ImmK K H kvs kws, fun i H x H' => H' = H ∧ ∃ k, kws[i]? = some (k, x), ?_, ⟨h1, h2⟩, fun H1 H2 e g => ⟨e.frz g.1, ImmK.ext e _ _ g.2⟩, fun i H1 x H2 hi hg hy => ?_⟩
  · have w := (walk_values (d := a) (o := o) (kvs := kws)).mono (G' := fun H => H a = some (.frz o (.dK kws)) ∧ ImmK K H kvs kws) (fun H g => g.1) fun _ _ _ _ _ _ y => y
    rw [List.length_map, ← immK_len h2]
    exact w
  · obtain ⟨rfl, k, h3⟩ := hy
    obtain ⟨kd, d, h4, h5, h6⟩ := immK_get hg.2 h3
    exact ⟨Same.refl _, d, by rw [List.getElem?_map, h4]; rfl, h6⟩
theorem it_items {K : PySem.W.Frag} {H : Hp} {kvs : List (D × D)} {kws : List (Key × V)} {a : Addr} {o : Obj} (h1 : H a = some (.frz o (.dK kws))) (h2 : ImmK K H kvs kws) : ItOk K (Iti a o kws) (kvs.map fun p => .tup [p.1, p.2]) H := by
  refine it_pair (by rw [List.length_map, ← immK_len h2]) ((walk_items (d := a) (o := o) (kvs := kws)).mono (G' := fun H => H a = some (.frz o (.dK kws)) ∧ ImmK K H kvs kws) (fun H g => g.1) fun _ _ _ _ _ _ y => y) ⟨h1, h2⟩ (fun H1 H2 e g => ⟨e.frz g.1, ImmK.ext e _ _ g.2⟩) fun i H1 x y hi g hx hy => ?_
  cases e : kws[i]? with
  | none => rw [e] at hx; cases hx
  | some kv =>
    rw [e] at hx hy
    cases hx; cases hy
    obtain ⟨kd, d, h4, h5, h6⟩ := immK_get g.2 (k := kv.1) (v := kv.2) e
    exact ⟨kd, d, by rw [List.getElem?_map, h4]; rfl, imm_key h5, h6⟩
def iDc (l : List Nat) (sel : D → Option (List D)) (f : Ex) : Ix := fun ρ => eF l f ρ >>= fun p => liftO (sel p.1) >>= fun ds => .ok (ds, p.2)
theorem i_values {apos cpos : Pos} {fa : Ex} (ha : EOk g a fa) (hbase : ∀ env, attributeBase a "values" env (eval a env) = eval a env := by intro _; rfl) (hline : (apos.endLine == cpos.line) = true := by rfl) :
    IOk g tg (.Call (.Attribute a "values" apos) [] [] cpos) (iDc g.ios dVals fa) := fun X W A tk => by
  refine PI.imp (pi_values (ha.f A tk) (hbase _) hline) fun σ H Q ⟨ρ, R, q⟩ => ?_
  refine tF_step R q fun d ρ1 x H1 R1 E1 im q1 => ?_
  obtain ⟨ds, hd, q2⟩ := q1.opt
  obtain ⟨kvs, rfl, rfl⟩ := dVals_is hd
  obtain ⟨p, o, kws, rfl, h1, h2⟩ := (show Rd0 X.K H1 kvs x from im)
  exact ⟨p, o, kws, rfl, h1, q2 H1 (Ext.refl _) R1 _ (it_vals h1 h2)⟩
theorem i_items {apos cpos tpos : Pos} {kk : Nat} {elts : List Expr} {fa : Ex} (ha : EOk g a fa) (hbase : ∀ env, attributeBase a "items" env (eval a env) = eval a env := by intro _; rfl) (hline : (apos.endLine == cpos.line) = true := by rfl) :
    IOk g (.Tuple elts kk tpos) (.Call (.Attribute a "items" apos) [] [] cpos) (iDc g.ios dItems fa) := fun X W A tk => by
  refine PI.imp (pi_items (ha.f A tk) (hbase _) hline) fun σ H Q ⟨ρ, R, q⟩ => ?_
  refine tF_step R q fun d ρ1 x H1 R1 E1 im q1 => ?_
  obtain ⟨ds, hd, q2⟩ := q1.opt
  obtain ⟨kvs, rfl, rfl⟩ := dItems_is hd
  obtain ⟨p, o, kws, rfl, h1, h2⟩ := (show Rd0 X.K H1 kvs x from im)
  exact ⟨p, o, kws, rfl, h1, q2 H1 (Ext.refl _) R1 _ (it_items h1 h2)⟩
/-! ### xs[::-1], s.join(xs) -/
theorem e_revL {k : Nat} {p1 p2 p3 : Pos} {fa : Ex} (ha : EOk g a fa) : EOk g (.Subscript a (.Slice none none (some (.UnaryOp .USub (.Constant (.int 1) k p1) p2)) p3) pos) (e1 dRev fa) := fun X W A tk => by
  refine PE.imp (pe_revL (ha.n A tk)) fun σ H Q t => read1 (r := fun x H1 Q => ∃ a xs, x = .ref a ∧ SqL X.K H1 a xs ∧ ∀ p, H1 p = none → Q (.ref p) (upd H1 p (.lst xs.reverse))) (fun x H Q d s r1 h q => ?_) t
  unfold dRev at h
  split at h
  · cases h
    obtain ⟨a, vs, rfl, s1, i1⟩ := r1.lst
    exact ⟨a, vs, rfl, s1, fun p hp => q _ _ (new_tup (K := X.K) hp) ⟨p, rfl, hp, _, upd_same, ImmL.ext (Ext.of_same (new_tup (K := X.K) hp)) _ _ i1.reverse⟩⟩
  · cases h
def strS : S → Option Str
  | .v (.str a) => some a
  | _ => none
def dJoin (a : Str) (d : D) : Option S := (dSeq d).bind fun ds => (strsD ds).bind fun ys => if (ys.map (·.length)).sum + ys.length * a.length ≤ 16777216 then some (.v (.str (Txt.join a ys))) else none
def eJoin (fo fe : Ex) : Ex := fun ρ => fo ρ >>= fun p => liftO (strS p.1) >>= fun a => fe p.2 >>= fun q => PL.pk q.2 q.1 >>= fun d => liftO (dJoin a d) >>= fun s => .ok (s, q.2)
theorem strS_is {s : S} {a : Str} (h : strS s = some a) : s = .v (.str a) := by
  unfold strS at h
  split at h
  · cases h; rfl
  · cases h
theorem dSeq_sq {K : PySem.W.Frag} {H : Hp} {d : D} {ds : List D} {x : V} (h : dSeq d = some ds) (r : Rd K H d x) : ∃ a vs, x = .ref a ∧ (SqL K H a vs ∨ SqT K H a vs) ∧ ImmL K H ds vs := by
  cases d with
  | tup es => cases h; obtain ⟨a, vs, e, s1, i1⟩ := r.tup; exact ⟨a, vs, e, .inr s1.seq, i1⟩
  | lst es => cases h; obtain ⟨a, vs, e, s1, i1⟩ := r.lst; exact ⟨a, vs, e, .inl s1, i1⟩
  | scr es => cases h; obtain ⟨a, e, s1⟩ := r.scr; exact ⟨a, _, e, .inl s1, immL_map_int _⟩
  | _ => cases h
theorem e_join {apos : Pos} {fo fe : Ex} (ho : EOk g o fo) (he : EOk g e fe) (hs : ∀ env, starEach [e] env = [(false, eval e env)] := by intro _; rfl) (hbase : ∀ env, attributeBase o "join" env (eval o env) = eval o env := by intro _; rfl) (hline : (apos.endLine == pos.line) = true := by rfl) :
    EOk g (.Call (.Attribute o "join" apos) [e] [] pos) (eJoin fo fe) := fun X W A tk => by
  refine PE.imp (pe_join (ho.n A tk) (he.n A tk) (hs _) (hbase _) hline) fun σ H Q ⟨ρ, R, q⟩ => ?_
  refine tN_step R q fun s1 ρ1 x H1 R1 E1 n1 q1 => ?_
  obtain ⟨a, ha, q2⟩ := q1.opt
  cases strS_is ha
  cases (show x = V.str a from n1)
  refine ⟨⟨a, rfl⟩, tN_step R1 q2 fun s2 ρ2 y H2 R2 E2 n2 q3 => ?_⟩
  obtain ⟨d, h1, q4⟩ := q3.pk
  obtain ⟨s, h2, q5⟩ := q4.opt
  unfold dJoin at h2
  cases h3 : dSeq d with
  | none => rw [h3] at h2; cases h2
  | some ds =>
    rw [h3, Option.bind_some] at h2
    cases h4 : strsD ds with
    | none => rw [h4] at h2; cases h2
    | some ys =>
      rw [h4, Option.bind_some] at h2
      split at h2
      · rename_i hz
        cases h2
        obtain ⟨b, vs, rfl, s1, i1⟩ := dSeq_sq h3 (pk_rd n2 R2 (Ext.refl _) h1)
        have e := immL_strs i1 h4
        subst e
        exact ⟨a, b, ys, rfl, rfl, s1, hz, q5 H2 (Ext.refl _) R2 _ rfl⟩
      · cases h2
end
end PL

/-! what the mirrors compute: equations for simp -/
namespace PL
open PySem PySem.Spec PyProof.Rows L2
/-- bind, written so that simp looks at the first reckoning alone -/
abbrev Wit {α β : Type} (_ : α → Out β) : Type := Unit
def bnd {α β : Type} (k : α → Out β) (w : Wit k) (r : Out α) : Out β := r >>= k
@[simp ↓] theorem x_bind {α β : Type} (r : Out α) (k : α → Out β) : (r >>= k) = bnd k () r := (rfl)
@[simp] theorem x_bnd1 {α β : Type} (a : α) (k : α → Out β) (w : Wit k) : bnd k w (.ok a) = k a := (rfl)
@[simp] theorem x_bnd2 {α β : Type} (c : Str) (ρ : Rho) (k : α → Out β) (w : Wit k) : bnd k w (.exc c ρ) = .exc c ρ := (rfl)
@[simp] theorem x_bnd3 {α β : Type} (k : α → Out β) (w : Wit k) : bnd k w .stuck = .stuck := (rfl)
section
variable {ρ : Rho} {od : D → D → Option S} {l : List Nat}
@[simp] theorem x_runF (m : Nat) (f : Sx) (ds : List D) : runF m f ds = (f (rhoV m ds) >>= endF) := (rfl)
@[simp] theorem x_rhoV (m : Nat) (ds : List D) : rhoV m ds = ds.map (fun d => some (S.v d)) ++ List.replicate m none := (rfl)
@[simp] theorem x_endF1 (s : S) (ρ : Rho) : endF (.ret s ρ) = .ok s := (rfl)
@[simp] theorem x_endF2 (ρ : Rho) : endF (.next ρ) = .ok (.v .non) := (rfl)
@[simp] theorem x_eC (d : D) : eC d ρ = .ok (.v d, ρ) := (rfl)
@[simp] theorem x_eVar (i : Nat) : eVar i ρ = (match ρ[i]? with
  | some (some (.v d)) => .ok (.v d, ρ)
  | some (some (.o _)) => .ok (.b i, ρ)
  | _ => .stuck) := (rfl)
@[simp] theorem x_pkv (d : D) : pk ρ (.v d) = .ok d := (rfl)
@[simp] theorem x_pko (d : D) : pk ρ (.o d) = .ok d := (rfl)
@[simp] theorem x_pkb (i : Nat) : pk ρ (.b i) = (match ρ[i]? with
    | some (some (.o d)) => .ok d
    | some (some (.v d)) => .ok d
    | _ => .stuck) := (rfl)
@[simp] theorem x_e2 (fa fb : Ex) : e2 od fa fb ρ = (fa ρ >>= fun p => fb p.2 >>= fun q => pk q.2 p.1 >>= fun d1 => pk q.2 q.1 >>= fun d2 => liftO (od d1 d2) >>= fun s => .ok (s, q.2)) := (rfl)
@[simp] theorem x_e1 (od : D → Option S) (fa : Ex) : e1 od fa ρ = (fa ρ >>= fun p => pk p.2 p.1 >>= fun d1 => liftO (od d1) >>= fun s => .ok (s, p.2)) := (rfl)
@[simp] theorem x_bE (t : Tx) : bE t ρ = (t ρ >>= fun p => .ok (.v (.bl p.1), p.2)) := (rfl)
@[simp] theorem x_tTru (fa : Ex) : tTru fa ρ = (fa ρ >>= fun p => pk p.2 p.1 >>= fun d => liftO (dTru d) >>= fun b => .ok (b, p.2)) := (rfl)
@[simp] theorem x_t2 (od : D → D → Option Bool) (fa fb : Ex) : t2 od fa fb ρ = (fa ρ >>= fun p => fb p.2 >>= fun q => pk q.2 p.1 >>= fun d1 => pk q.2 q.1 >>= fun d2 => liftO (od d1 d2) >>= fun k => .ok (k, q.2)) := (rfl)
@[simp] theorem x_tCh (od od' : D → D → Option Bool) (fa fb fc : Ex) : tCh od od' fa fb fc ρ = (fa ρ >>= fun p => fb p.2 >>= fun q => pk q.2 p.1 >>= fun d1 => pk q.2 q.1 >>= fun d2 => liftO (od d1 d2) >>= fun k =>
  if k = true then fc q.2 >>= fun r => pk r.2 q.1 >>= fun d2 => pk r.2 r.1 >>= fun d3 => liftO (od' d2 d3) >>= fun k' => .ok (k', r.2) else .ok (false, q.2)) := (rfl)
@[simp] theorem x_tAnd (t u : Tx) : tAnd t u ρ = (t ρ >>= fun p => if p.1 = true then u p.2 else .ok (false, p.2)) := (rfl)
@[simp] theorem x_tOr (t u : Tx) : tOr t u ρ = (t ρ >>= fun p => if p.1 = true then .ok (true, p.2) else u p.2) := (rfl)
@[simp] theorem x_tNot (t : Tx) : tNot t ρ = (t ρ >>= fun p => .ok (!p.1, p.2)) := (rfl)
@[simp] theorem x_eAnd (fa fb : Ex) : eAnd fa fb ρ = (fa ρ >>= fun p => pk p.2 p.1 >>= fun d => match d with
  | .bl true => fb p.2
  | .bl false => .ok (.v (.bl false), p.2)
  | _ => .stuck) := (rfl)
@[simp] theorem x_eOr (fa fb : Ex) : eOr fa fb ρ = (fa ρ >>= fun p => pk p.2 p.1 >>= fun d => match d with
  | .bl true => .ok (.v (.bl true), p.2)
  | .bl false => fb p.2
  | _ => .stuck) := (rfl)
@[simp] theorem x_eNot (fa : Ex) : eNot fa ρ = (fa ρ >>= fun p => pk p.2 p.1 >>= fun d => match d with
  | .bl k => .ok (.v (.bl (!k)), p.2)
  | _ => .stuck) := (rfl)
@[simp] theorem x_eIf (t : Tx) (fa fb : Ex) : eIf t fa fb ρ = (t ρ >>= fun p => if p.1 = true then fa p.2 else fb p.2) := (rfl)
@[simp] theorem x_fzv (d : D) : fz l (.v d) ρ = .ok (d, ρ) := (rfl)
@[simp] theorem x_fzo (d : D) : fz l (.o d) ρ = .ok (d, ρ) := (rfl)
@[simp] theorem x_fzb (i : Nat) : fz l (.b i) ρ = (if i ∈ l then .stuck else match ρ[i]? with
    | some (some (.o d)) => .ok (d, ρ.set i (some (.v d)))
    | some (some (.v d)) => .ok (d, ρ)
    | _ => .stuck) := (rfl)
@[simp] theorem x_fzL0 : fzL l [] ρ = .ok ([], ρ) := (rfl)
@[simp] theorem x_fzL1 (s : S) (ss : List S) : fzL l (s :: ss) ρ = (fz l s ρ >>= fun p => fzL l ss p.2 >>= fun q => .ok (p.1 :: q.1, q.2)) := (rfl)
@[simp] theorem x_eF (f : Ex) : eF l f ρ = (f ρ >>= fun p => fz l p.1 p.2) := (rfl)
@[simp] theorem x_aNil : aNil ρ = .ok ([], ρ) := (rfl)
@[simp] theorem x_aCons (f : Ex) (r : Ax) : aCons f r ρ = (f ρ >>= fun p => r p.2 >>= fun q => .ok (p.1 :: q.1, q.2)) := (rfl)
@[simp] theorem x_aF (f : Ax) : aF l f ρ = (f ρ >>= fun p => fzL l p.1 p.2) := (rfl)
@[simp] theorem x_eTup (f : Ax) : eTup l f ρ = (aF l f ρ >>= fun p => if p.1.length ≤ 16777216 then .ok (.v (.tup p.1), p.2) else .stuck) := (rfl)
@[simp] theorem x_eLst (f : Ax) : eLst l f ρ = (aF l f ρ >>= fun p => if p.1.length ≤ 16777216 then .ok (.o (.lst p.1), p.2) else .stuck) := (rfl)
@[simp] theorem x_pNo : pNo ρ = .ok (none, ρ) := (rfl)
@[simp] theorem x_pSo (f : Ex) : pSo f ρ = (f ρ >>= fun p => pk p.2 p.1 >>= fun d => liftO (dInt d) >>= fun i => .ok (some i, p.2)) := (rfl)
@[simp] theorem x_dInt (i : Int) : dInt (.int i) = some i := (rfl)
@[simp] theorem x_eSl (f : Ex) (lo hi : Px) : eSl f lo hi ρ = (f ρ >>= fun p => lo p.2 >>= fun q => hi q.2 >>= fun r => pk r.2 p.1 >>= fun d => liftO (dSl d q.1 r.1) >>= fun s => .ok (s, r.2)) := (rfl)
@[simp] theorem x_pkL0 : pkL ρ [] = .ok [] := (rfl)
@[simp] theorem x_pkL1 (s : S) (ss : List S) : pkL ρ (s :: ss) = (pk ρ s >>= fun d => pkL ρ ss >>= fun ds => .ok (d :: ds)) := (rfl)
@[simp] theorem x_eB (od : List D → Option S) (fa : Ax) : eB od fa ρ = (fa ρ >>= fun p => pkL p.2 p.1 >>= fun ds => liftO (od ds) >>= fun s => .ok (s, p.2)) := (rfl)
@[simp] theorem x_tIsi (f : D → Option Bool) (fa : Ex) : tIsi f fa ρ = (fa ρ >>= fun p => pk p.2 p.1 >>= fun d => liftO (f d) >>= fun k => .ok (k, p.2)) := (rfl)
@[simp] theorem x_eCall (n : Nat) (F : Fn) (fa : Ax) : eCall l n F fa ρ = (aF l fa ρ >>= fun p => if p.1.length = n then atR p.2 (F p.1) else .stuck) := (rfl)
@[simp] theorem x_atR1 (s : S) : atR ρ (.ok s) = .ok (s, ρ) := (rfl)
@[simp] theorem x_atR2 (c : Str) (ρ' : Rho) : atR ρ (.exc c ρ') = .exc c ρ := (rfl)
/-! statements -/
@[simp] theorem x_sSeq (f h : Sx) : sSeq f h ρ = (f ρ >>= fun r => match r with
  | .next ρ' => h ρ'
  | .ret s ρ' => .ok (.ret s ρ')
  | .brk ρ' => .ok (.brk ρ')
  | .cnt ρ' => .ok (.cnt ρ')) := (rfl)
@[simp] theorem x_sNil : sNil ρ = .ok (.next ρ) := (rfl)
@[simp] theorem x_sBrk : sBrk ρ = .ok (.brk ρ) := (rfl)
@[simp] theorem x_sCnt : sCnt ρ = .ok (.cnt ρ) := (rfl)
@[simp] theorem x_sEx (f : Ex) : sEx f ρ = (f ρ >>= fun p => .ok (.next p.2)) := (rfl)
@[simp] theorem x_mvv (d : D) : mv l (.v d) ρ = .ok (.v d, ρ) := (rfl)
@[simp] theorem x_mvo (d : D) : mv l (.o d) ρ = .ok (.o d, ρ) := (rfl)
@[simp] theorem x_mvb (i : Nat) : mv l (.b i) ρ = (if i ∈ l then .stuck else match ρ[i]? with
    | some (some (.o d)) => .ok (.o d, ρ)
    | some (some (.v d)) => .ok (.v d, ρ)
    | _ => .stuck) := (rfl)
@[simp] theorem x_sRet (f : Ex) : sRet l f ρ = (f ρ >>= fun p => mv l p.1 p.2 >>= fun r => .ok (.ret r.1 r.2)) := (rfl)
@[simp] theorem x_sRetN : sRetN ρ = .ok (.ret (.v .non) ρ) := (rfl)
@[simp] theorem x_bdv (d : D) : bd l (.v d) ρ = .ok (.v d, ρ) := (rfl)
@[simp] theorem x_bdo (d : D) : bd l (.o d) ρ = .ok (.o d, ρ) := (rfl)
@[simp] theorem x_bdb (i : Nat) : bd l (.b i) ρ = (fz l (.b i) ρ >>= fun p => .ok (.v p.1, p.2)) := (rfl)
@[simp] theorem x_sSet (i : Nat) (f : Ex) : sSet l i f ρ = (f ρ >>= fun p => bd l p.1 p.2 >>= fun p => if i ∈ l then .stuck else .ok (.next (p.2.set i (some p.1)))) := by
  unfold sSet eBd
  cases f ρ <;> rfl
@[simp] theorem x_gNm (i : Nat) (d : D) : gNm l i d ρ = (if i ∈ l then none else some (ρ.set i (some (.v d)))) := (rfl)
@[simp] theorem x_gsNil : gsNil [] ρ = some ρ := (rfl)
@[simp] theorem x_gsCons (f : Gx) (r : Gxs) (d : D) (ds : List D) : gsCons f r (d :: ds) ρ = (f d ρ).bind fun ρ' => r ds ρ' := (rfl)
@[simp] theorem x_gTp1 (n : Nat) (r : Gxs) (ds : List D) : gTp n r (.tup ds) ρ = (if ds.length = n then r ds ρ else none) := (rfl)
@[simp] theorem x_gTp2 (n : Nat) (r : Gxs) (ds : List D) : gTp n r (.lst ds) ρ = (if ds.length = n then r ds ρ else none) := (rfl)
@[simp] theorem x_sAsg (f : Ex) (t : Gx) : sAsg l f t ρ = (f ρ >>= fun p => fz l p.1 p.2 >>= fun p => liftO (t p.1 p.2) >>= fun ρ' => .ok (.next ρ')) := by
  unfold sAsg eF
  cases f ρ <;> rfl
@[simp] theorem x_sIf (t : Tx) (f h : Sx) : sIf t f h ρ = (t ρ >>= fun p => if p.1 = true then f p.2 else h p.2) := (rfl)
@[simp] theorem x_sFor (i : Ix) (t : Gx) (f : Sx) : sFor i t f ρ = (i ρ >>= fun p => lp t f p.1 p.2) := (rfl)
@[simp] theorem x_lp0 (t : Gx) (f : Sx) : lp t f [] ρ = .ok (.next ρ) := (rfl)
theorem x_lp1 (t : Gx) (f : Sx) (d : D) (ds : List D) : lp t f (d :: ds) ρ = (liftO (t d ρ) >>= fun ρ1 => f ρ1 >>= aft (lp t f ds)) := (rfl)
@[simp] theorem x_aft1 (k : Sx) : aft k (.next ρ) = k ρ := (rfl)
@[simp] theorem x_aft2 (k : Sx) : aft k (.cnt ρ) = k ρ := (rfl)
@[simp] theorem x_aft3 (k : Sx) : aft k (.brk ρ) = .ok (.next ρ) := (rfl)
@[simp] theorem x_aft4 (k : Sx) (s : S) : aft k (.ret s ρ) = .ok (.ret s ρ) := (rfl)
@[simp] theorem x_iVal (f : Ex) : iVal l f ρ = (f ρ >>= fun p => fz l p.1 p.2 >>= fun p => liftO (dIter p.1) >>= fun ds => .ok (ds, p.2)) := by
  unfold iVal eF
  cases f ρ <;> rfl
@[simp] theorem x_iRg1 (fa : Ax) : iRg1 fa ρ = (fa ρ >>= fun p => pkL p.2 p.1 >>= fun ds => liftO (int1 ds) >>= fun j => .ok (rgD 0 j.toNat, p.2)) := (rfl)
@[simp] theorem x_iRg2 (fa : Ax) : iRg2 fa ρ = (fa ρ >>= fun p => pkL p.2 p.1 >>= fun ds => liftO (int2 ds) >>= fun j => .ok (rgD j.1 (j.2 - j.1).toNat, p.2)) := (rfl)
@[simp] theorem x_iEn (f : Ex) : iEn l f ρ = (f ρ >>= fun p => fz l p.1 p.2 >>= fun p => liftO (dSeq p.1) >>= fun ds => .ok (enD 0 ds, p.2)) := by
  unfold iEn eF
  cases f ρ <;> rfl
@[simp] theorem x_iZp (fa : Ax) : iZp l fa ρ = (aF l fa ρ >>= fun p => liftO (zip2 p.1) >>= fun ds => .ok (ds, p.2)) := (rfl)
@[simp] theorem x_sRaise (c : Str) : sRaise c ρ = .exc c ρ := (rfl)
@[simp] theorem x_eMl (i : Nat) (od : List D → List D → Option (D × List D)) (fa : Ax) : eMl l i od fa ρ = (match ownD ρ i with
  | some (.lst _) => aF l fa ρ >>= fun p => (match ownD p.2 i with
    | some (.lst ls) => liftO (od ls p.1) >>= fun q => .ok (.v q.1, putO p.2 i (.lst q.2))
    | _ => .stuck)
  | _ => .stuck) := (rfl)
@[simp] theorem x_ownD (i : Nat) : ownD ρ i = (match ρ[i]? with
  | some (some (.o d)) => some d
  | _ => none) := (rfl)
@[simp] theorem x_putO (i : Nat) (d : D) : putO ρ i d = ρ.set i (some (.o d)) := (rfl)
@[simp] theorem x_valD (i : Nat) : valD ρ i = (match ρ[i]? with
  | some (some (.v d)) => some d
  | _ => none) := (rfl)
@[simp] theorem x_sAug (i : Nat) (od : D → D → Option S) (f : Ex) : sAug l i od f ρ = (liftO (valD ρ i) >>= fun d1 => f ρ >>= fun p => PL.pk p.2 p.1 >>= fun d2 => liftO (od d1 d2) >>= fun s => if i ∈ l then .stuck else .ok (.next (p.2.set i (some s)))) := (rfl)
@[simp] theorem x_gSb (i : Nat) (fi : Ex) (v : D) : gSb i fi v ρ = (match ownD ρ i, fi ρ with
  | some _, .ok (s, ρ1) => (match PL.pk ρ1 s, ownD ρ1 i with
    | .ok k, some d => (dSet d k v).map fun d' => putO ρ1 i d'
    | _, _ => none)
  | _, _ => none) := (rfl)
/-! values -/
@[simp] theorem x_lt (i j : Int) : dLt (.int i) (.int j) = some (decide (i < j)) := (rfl)
@[simp] theorem x_le (i j : Int) : dLe (.int i) (.int j) = some (decide (i ≤ j)) := (rfl)
@[simp] theorem x_gt (i j : Int) : dGt (.int i) (.int j) = some (decide (j < i)) := (rfl)
@[simp] theorem x_ge (i j : Int) : dGe (.int i) (.int j) = some (decide (j ≤ i)) := (rfl)
@[simp] theorem x_add (i j : Int) : dAdd (.int i) (.int j) = some (.v (.int (i + j))) := (rfl)
@[simp] theorem x_addT (a b : List D) : dAdd (.tup a) (.tup b) = if a.length + b.length ≤ 16777216 then some (.v (.tup (a ++ b))) else none := (rfl)
@[simp] theorem x_sub (i j : Int) : dSub (.int i) (.int j) = some (.v (.int (i - j))) := (rfl)
@[simp] theorem x_mul (i j : Int) : dMul (.int i) (.int j) = if mulOk i j then some (.v (.int (i * j))) else none := (rfl)
theorem mulOk_l {a b : Int} (h : a.natAbs < 18446744073709551616) : mulOk a b := .inl h
theorem mulOk_r {a b : Int} (h : b.natAbs < 18446744073709551616) : mulOk a b := .inr (.inl h)
@[simp] theorem x_mod (i j : Int) : dMod (.int i) (.int j) = if 0 < j then some (.v (.int (i % j))) else if j ≠ 0 then some (.v (.int (i.fmod j))) else none := (rfl)
@[simp] theorem x_div (a b : Int) : dDiv (.int a) (.int b) = if 0 < b ∧ b.natAbs.log2 < 9000 then some (.v (.int (a / b))) else if b ≠ 0 ∧ (b.natAbs < 1073741824 ∨ b.natAbs.log2 < 9000) then some (.v (.int (a.fdiv b))) else none := (rfl)
@[simp] theorem x_neg (i : Int) : dNeg (.int i) = some (.v (.int (-i))) := (rfl)
@[simp] theorem x_isN (d : D) : dIs d .non = some (dIsNon d) := (rfl)
@[simp] theorem x_isB (d : D) (k : Bool) : dIs d (.bl k) = some (dIsBl k d) := (rfl)
@[simp] theorem x_isnN (d : D) : dIsNot d .non = some (!dIsNon d) := (rfl)
@[simp] theorem x_isnB (d : D) (k : Bool) : dIsNot d (.bl k) = some (!dIsBl k d) := (rfl)
@[simp] theorem x_isNon1 : dIsNon .non = true := (rfl)
@[simp] theorem x_isNon2 (b : Bool) : dIsNon (.bl b) = false := (rfl)
@[simp] theorem x_isNon3 (b : Int) : dIsNon (.int b) = false := (rfl)
@[simp] theorem x_isNon4 (b : Str) : dIsNon (.str b) = false := (rfl)
@[simp] theorem x_isNon5 (b : List D) : dIsNon (.tup b) = false := (rfl)
@[simp] theorem x_isNon6 (b : List D) : dIsNon (.lst b) = false := (rfl)
@[simp] theorem x_isBl1 (k : Bool) : dIsBl k .non = false := (rfl)
@[simp] theorem x_isBl2 (k b : Bool) : dIsBl k (.bl b) = (b == k) := (rfl)
@[simp] theorem x_isBl3 (k : Bool) (b : Int) : dIsBl k (.int b) = false := (rfl)
@[simp] theorem x_isBl4 (k : Bool) (b : Str) : dIsBl k (.str b) = false := (rfl)
@[simp] theorem x_isBl5 (k : Bool) (b : List D) : dIsBl k (.tup b) = false := (rfl)
@[simp] theorem x_isBl6 (k : Bool) (b : List D) : dIsBl k (.lst b) = false := (rfl)
@[simp] theorem x_truB (b : Bool) : dTru (.bl b) = some b := (rfl)
@[simp] theorem x_int1 (i : Int) : dInt1 [.int i] = some (.v (.int i)) := (rfl)
@[simp] theorem x_int1b (k : Bool) : dInt1 [.bl k] = some (.v (.int (if k then 1 else 0))) := (rfl)
@[simp] theorem x_abs (i : Int) : dAbs [.int i] = some (.v (.int (if i < 0 then -i else i))) := (rfl)
@[simp] theorem x_lenT (ds : List D) : dLen [.tup ds] = some (.v (.int ds.length)) := (rfl)
@[simp] theorem x_lenL (ds : List D) : dLen [.lst ds] = some (.v (.int ds.length)) := (rfl)
@[simp] theorem x_lenK (ds : List D) : dLen [.ktp ds] = some (.v (.int ds.length)) := (rfl)
@[simp] theorem x_lenS (ds : List Int) : dLen [.scr ds] = some (.v (.int ds.length)) := (rfl)
@[simp] theorem x_tupT (ds : List D) : dTup1 [.tup ds] = some (.v (.tup ds)) := (rfl)
@[simp] theorem x_tupL (ds : List D) : dTup1 [.lst ds] = some (.v (.tup ds)) := (rfl)
@[simp] theorem x_lstT (ds : List D) : dLst1 [.tup ds] = some (.o (.lst ds)) := (rfl)
@[simp] theorem x_lstL (ds : List D) : dLst1 [.lst ds] = some (.o (.lst ds)) := (rfl)
@[simp] theorem x_itT (ds : List D) : dIter (.tup ds) = some ds := (rfl)
@[simp] theorem x_itL (ds : List D) : dIter (.lst ds) = some ds := (rfl)
@[simp] theorem x_itK (ds : List D) : dIter (.ktp ds) = some ds := (rfl)
@[simp] theorem x_itS (ns : List Int) : dIter (.scr ns) = some (ns.map .int) := (rfl)
@[simp] theorem x_seqT (ds : List D) : dSeq (.tup ds) = some ds := (rfl)
@[simp] theorem x_seqL (ds : List D) : dSeq (.lst ds) = some ds := (rfl)
@[simp] theorem x_slT (ds : List D) (lo hi : Option Int) : dSl (.tup ds) lo hi = some (.v (.tup (cutG ds lo hi))) := (rfl)
@[simp] theorem x_slL (ds : List D) (lo hi : Option Int) : dSl (.lst ds) lo hi = some (.o (.lst (cutG ds lo hi))) := (rfl)
@[simp] theorem x_slS (ns : List Int) (lo hi : Option Int) : dSl (.scr ns) lo hi = some (.o (.lst ((cutG ns lo hi).map .int))) := (rfl)
@[simp] theorem x_ixT (ds : List D) (i : Int) : dIx (.tup ds) (.int i) = (atI ds i).map .v := (rfl)
@[simp] theorem x_ixL (ds : List D) (i : Int) : dIx (.lst ds) (.int i) = (atI ds i).map .v := (rfl)
@[simp] theorem x_append (ls : List D) (d : D) : mAppend ls [d] = if ls.length < 16777216 then some (.non, ls ++ [d]) else none := (rfl)
@[simp] theorem x_isT_int_non  : isT .int .non = some false := (rfl)
@[simp] theorem x_isT_int_bl (x : Bool) : isT .int (.bl x) = some true := (rfl)
@[simp] theorem x_isT_int_int (x : Int) : isT .int (.int x) = some true := (rfl)
@[simp] theorem x_isT_int_str (x : Str) : isT .int (.str x) = some false := (rfl)
@[simp] theorem x_isT_int_tup (x : List D) : isT .int (.tup x) = some false := (rfl)
@[simp] theorem x_isT_int_lst (x : List D) : isT .int (.lst x) = some false := (rfl)
@[simp] theorem x_isT_int_ktp (x : List D) : isT .int (.ktp x) = some false := (rfl)
@[simp] theorem x_isT_int_scr (x : List Int) : isT .int (.scr x) = some false := (rfl)
@[simp] theorem x_isT_bool_non  : isT .bool .non = some false := (rfl)
@[simp] theorem x_isT_bool_bl (x : Bool) : isT .bool (.bl x) = some true := (rfl)
@[simp] theorem x_isT_bool_int (x : Int) : isT .bool (.int x) = some false := (rfl)
@[simp] theorem x_isT_bool_str (x : Str) : isT .bool (.str x) = some false := (rfl)
@[simp] theorem x_isT_bool_tup (x : List D) : isT .bool (.tup x) = some false := (rfl)
@[simp] theorem x_isT_bool_lst (x : List D) : isT .bool (.lst x) = some false := (rfl)
@[simp] theorem x_isT_bool_ktp (x : List D) : isT .bool (.ktp x) = some false := (rfl)
@[simp] theorem x_isT_bool_scr (x : List Int) : isT .bool (.scr x) = some false := (rfl)
@[simp] theorem x_isT_str_non  : isT .str .non = some false := (rfl)
@[simp] theorem x_isT_str_bl (x : Bool) : isT .str (.bl x) = some false := (rfl)
@[simp] theorem x_isT_str_int (x : Int) : isT .str (.int x) = some false := (rfl)
@[simp] theorem x_isT_str_str (x : Str) : isT .str (.str x) = some true := (rfl)
@[simp] theorem x_isT_str_tup (x : List D) : isT .str (.tup x) = some false := (rfl)
@[simp] theorem x_isT_str_lst (x : List D) : isT .str (.lst x) = some false := (rfl)
@[simp] theorem x_isT_str_ktp (x : List D) : isT .str (.ktp x) = some false := (rfl)
@[simp] theorem x_isT_str_scr (x : List Int) : isT .str (.scr x) = some false := (rfl)
@[simp] theorem x_isT_tuple_non  : isT .tuple .non = some false := (rfl)
@[simp] theorem x_isT_tuple_bl (x : Bool) : isT .tuple (.bl x) = some false := (rfl)
@[simp] theorem x_isT_tuple_int (x : Int) : isT .tuple (.int x) = some false := (rfl)
@[simp] theorem x_isT_tuple_str (x : Str) : isT .tuple (.str x) = some false := (rfl)
@[simp] theorem x_isT_tuple_tup (x : List D) : isT .tuple (.tup x) = some true := (rfl)
@[simp] theorem x_isT_tuple_lst (x : List D) : isT .tuple (.lst x) = some false := (rfl)
@[simp] theorem x_isT_tuple_ktp (x : List D) : isT .tuple (.ktp x) = some true := (rfl)
@[simp] theorem x_isT_tuple_scr (x : List Int) : isT .tuple (.scr x) = some false := (rfl)
@[simp] theorem x_isT_list_non  : isT .list .non = some false := (rfl)
@[simp] theorem x_isT_list_bl (x : Bool) : isT .list (.bl x) = some false := (rfl)
@[simp] theorem x_isT_list_int (x : Int) : isT .list (.int x) = some false := (rfl)
@[simp] theorem x_isT_list_str (x : Str) : isT .list (.str x) = some false := (rfl)
@[simp] theorem x_isT_list_tup (x : List D) : isT .list (.tup x) = some false := (rfl)
@[simp] theorem x_isT_list_lst (x : List D) : isT .list (.lst x) = some true := (rfl)
@[simp] theorem x_isT_list_ktp (x : List D) : isT .list (.ktp x) = some false := (rfl)
@[simp] theorem x_isT_list_scr (x : List Int) : isT .list (.scr x) = some true := (rfl)
@[simp] theorem x_isT_dict_non  : isT .dict .non = some false := (rfl)
@[simp] theorem x_isT_dict_bl (x : Bool) : isT .dict (.bl x) = some false := (rfl)
@[simp] theorem x_isT_dict_int (x : Int) : isT .dict (.int x) = some false := (rfl)
@[simp] theorem x_isT_dict_str (x : Str) : isT .dict (.str x) = some false := (rfl)
@[simp] theorem x_isT_dict_tup (x : List D) : isT .dict (.tup x) = some false := (rfl)
@[simp] theorem x_isT_dict_lst (x : List D) : isT .dict (.lst x) = some false := (rfl)
@[simp] theorem x_isT_dict_ktp (x : List D) : isT .dict (.ktp x) = some false := (rfl)
@[simp] theorem x_isT_dict_scr (x : List Int) : isT .dict (.scr x) = some false := (rfl)
theorem x_eq_int (i j : Int) : eqD (.int i) (.int j) = decide (i = j) := by
  show (i == j) = decide (i = j)
  by_cases h : i = j <;> simp [h]
@[simp] theorem x_dEq_int (i j : Int) : dEq (.int i) (.int j) = some (decide (i = j)) := by
  unfold dEq
  rw [if_pos (show flatX (.int i) (.int j) = true from rfl), x_eq_int]
theorem x_eq_str (i j : Str) : eqD (.str i) (.str j) = decide (i = j) := by
  show (i == j) = decide (i = j)
  by_cases h : i = j <;> simp [h]
@[simp] theorem x_dEq_str (i j : Str) : dEq (.str i) (.str j) = some (decide (i = j)) := by
  unfold dEq
  rw [if_pos (show flatX (.str i) (.str j) = true from rfl), x_eq_str]
@[simp] theorem x_dNe (d e : D) : dNe d e = (dEq d e).map (!·) := (rfl)
/-! loops -/
/-- a loop none of whose turns leaves it: I by the items done -/
theorem lp_next {t : Gx} {f : Sx} (I : List D → Rho → Prop) : ∀ (rest done : List D) (ρ : Rho), I done ρ → (∀ dn d r ρ, done ++ rest = dn ++ d :: r → I dn ρ → ∃ ρ1, t d ρ = some ρ1 ∧ ∃ ρ', (f ρ1 = .ok (.next ρ') ∨ f ρ1 = .ok (.cnt ρ')) ∧ I (dn ++ [d]) ρ') →
    ∃ ρ', lp t f rest ρ = .ok (.next ρ') ∧ I (done ++ rest) ρ'
  | [], done, ρ, h, _ => ⟨ρ, rfl, by rw [List.append_nil]; exact h⟩
  | d :: rest, done, ρ, h, hs => by
    obtain ⟨ρ1, h1, ρ', h2, h3⟩ := hs done d rest ρ rfl h
    obtain ⟨ρ2, h4, h5⟩ := lp_next I rest (done ++ [d]) ρ' h3 fun dn d' r ρ e => hs dn d' r ρ (by rw [← e, List.append_assoc]; rfl)
    refine ⟨ρ2, ?_, by rw [List.append_assoc] at h5; exact h5⟩
    rw [x_lp1, h1]
    rcases h2 with h2 | h2
    · rw [liftO_some, bind_ok, h2, bind_ok, x_aft1, h4]
    · rw [liftO_some, bind_ok, h2, bind_ok, x_aft2, h4]
/-- a loop that goes on while p holds, and else hands back z -/
theorem lp_all {t : Gx} {f : Sx} (I : Rho → Prop) (p : D → Bool) (z : D) : ∀ (ds : List D) (ρ : Rho), I ρ → (∀ d ρ, d ∈ ds → I ρ → ∃ ρ1, t d ρ = some ρ1 ∧ ∃ ρ', f ρ1 = (if p d = true then .ok (.next ρ') else .ok (.ret (.v z) ρ')) ∧ I ρ') →
    ∃ ρ', lp t f ds ρ = (if ds.all p = true then .ok (.next ρ') else .ok (.ret (.v z) ρ')) ∧ I ρ'
  | [], ρ, h, _ => ⟨ρ, rfl, h⟩
  | d :: ds, ρ, h, hs => by
    obtain ⟨ρ1, h1, ρ', h2, h3⟩ := hs d ρ List.mem_cons_self h
    rw [x_lp1, h1]
    simp only [liftO_some, bind_ok, h2, List.all_cons]
    by_cases hp : p d = true
    · obtain ⟨ρ2, h4, h5⟩ := lp_all I p z ds ρ' h3 fun d' ρ hd => hs d' ρ (List.mem_cons_of_mem _ hd)
      refine ⟨ρ2, ?_, h5⟩
      rw [if_pos hp, bind_ok, x_aft1, h4]
      simp [hp]
    · refine ⟨ρ', ?_, h3⟩
      rw [if_neg hp, bind_ok, x_aft4]
      simp [hp]
end
/-! comprehensions -/
@[simp] theorem x_tsNo (ρ : Rho) : tsNo ρ = .ok (true, ρ) := (rfl)
@[simp] theorem x_nox {α : Type} (a : α) : nox (.ok a) = .ok a := (rfl)
theorem x_eLc (l vs : List Nat) (fi : Ix) (ft : Gx) (tt : Tx) (fe : Ex) (ρ : Rho) : eLc l vs fi ft tt fe ρ = (fi ρ >>= fun p => if (∀ i ∈ vs, i ∉ l) then nox (lcLp l vs ft tt fe p.1 (wipeE p.2 vs) []) >>= fun q => .ok (.o (.lst q.1), unwipe vs p.2 q.2) else .stuck) := (rfl)
/-- a comprehension whose turns leave the state as it was -/
theorem lc_eq {l vs : List Nat} {ft : Gx} {tt : Tx} {fe : Ex} {ρ0 : Rho} (c : D → Bool) (h : D → D) : ∀ (ds acc : List D), acc.length + ds.length ≤ 16777216 →
    (∀ d, d ∈ ds → ∃ ρ1 ρ2, ft d ρ0 = some ρ1 ∧ tt ρ1 = .ok (c d, ρ2) ∧ (if c d = true then ∃ ρ3, eF l fe ρ2 = .ok (h d, ρ3) ∧ wipeE ρ3 vs = ρ0 else wipeE ρ2 vs = ρ0)) →
    lcLp l vs ft tt fe ds ρ0 acc = .ok (acc ++ (ds.filter c).map h, ρ0)
  | [], acc, _, _ => by simp [lcLp]
  | d :: ds, acc, hl, hs => by
    obtain ⟨ρ1, ρ2, h1, h2, h3⟩ := hs d List.mem_cons_self
    have ih := fun acc' hl' => lc_eq (l := l) (vs := vs) (ft := ft) (tt := tt) (fe := fe) (ρ0 := ρ0) c h ds acc' hl' fun d' hd => hs d' (List.mem_cons_of_mem _ hd)
    rw [List.length_cons] at hl
    rw [lcLp, h1, liftO_some, bind_ok, h2, bind_ok]
    by_cases hc : c d = true
    · rw [if_pos hc] at h3
      obtain ⟨ρ3, h4, h5⟩ := h3
      rw [if_pos hc, h4, bind_ok, if_pos (by omega), h5, ih (acc ++ [h d]) (by rw [List.length_append, List.length_singleton]; omega)]
      rw [List.filter_cons_of_pos hc, List.map_cons, List.append_assoc]
      rfl
    · rw [if_neg hc] at h3
      rw [if_neg hc, h3, ih acc (by omega), List.filter_cons_of_neg hc]
theorem lc_map {l vs : List Nat} {ft : Gx} {fe : Ex} {ρ0 : Rho} (h : D → D) (ds : List D) (hl : ds.length ≤ 16777216)
    (hs : ∀ d, d ∈ ds → ∃ ρ1 ρ3, ft d ρ0 = some ρ1 ∧ eF l fe ρ1 = .ok (h d, ρ3) ∧ wipeE ρ3 vs = ρ0) : lcLp l vs ft tsNo fe ds ρ0 [] = .ok (ds.map h, ρ0) := by
  rw [lc_eq (fun _ => true) h ds [] (by simpa using hl) fun d hd => ?_]
  · rw [List.filter_eq_self.mpr (fun _ _ => rfl)]
    rfl
  · obtain ⟨ρ1, ρ3, h1, h2, h3⟩ := hs d hd
    exact ⟨ρ1, ρ1, h1, rfl, by rw [if_pos rfl]; exact ⟨ρ3, h2, h3⟩⟩
theorem x_bls : ∀ bs : List Bool, blsD (bs.map .bl) = some bs
  | [] => rfl
  | b :: bs => by rw [List.map_cons, blsD, x_bls bs]; rfl
theorem x_blsM {α : Type} (f : α → Bool) (xs : List α) : blsD (xs.map fun x => .bl (f x)) = some (xs.map f) := by
  rw [← x_bls (xs.map f), List.map_map]
  rfl
theorem x_ints : ∀ ns : List Int, intsD (ns.map .int) = some ns
  | [] => rfl
  | b :: bs => by rw [List.map_cons, intsD, x_ints bs]; rfl
@[simp] theorem x_wipe0 (ρ : Rho) : wipeE ρ [] = ρ := (rfl)
@[simp] theorem x_wipe1 (ρ : Rho) (v : Nat) (vs : List Nat) : wipeE ρ (v :: vs) = (wipeE ρ vs).set v none := (rfl)
@[simp] theorem x_unwipe0 (ρ ρ' : Rho) : unwipe [] ρ ρ' = ρ' := (rfl)
@[simp] theorem x_unwipe1 (ρ ρ' : Rho) (v : Nat) (vs : List Nat) : unwipe (v :: vs) ρ ρ' = (unwipe vs ρ ρ').set v (match ρ[v]? with
    | some (some (.v d)) => some (.v d)
    | _ => none) := (rfl)
@[simp] theorem x_allL (ds : List D) : dAll [.lst ds] = (blsD ds).map fun bs => .v (.bl (bs.all id)) := (rfl)
@[simp] theorem x_anyL (ds : List D) : dAny [.lst ds] = (blsD ds).map fun bs => .v (.bl (bs.any id)) := (rfl)
@[simp] theorem x_sumL (ds : List D) : dSum [.lst ds] = (intsD ds).map fun ns => .v (.int ns.sum) := (rfl)
/-! try -/
theorem x_sTry (need : Nat) (tab : List (Str × Bool)) (h : Hx) (f : Sx) (ρ : Rho) : sTry need tab h f ρ = (match f ρ with
  | .ok r => .ok r
  | .stuck => .stuck
  | .exc c ρ' => match look tab c with
    | some true => (match h c with
      | some d => if need ≤ ρ'.length then .ok (.ret (.v d) ρ') else .stuck
      | none => .stuck)
    | some false => .exc c ρ'
    | none => .stuck) := (rfl)
@[simp] theorem x_hC (d : D) (c : Str) : hC d c = some d := (rfl)
@[simp] theorem x_hIs (tab : List (Str × Bool)) (c : Str) : hIs tab c = (look tab c).map .bl := (rfl)
@[simp] theorem x_hAnd (h1 h2 : Hx) (c : Str) : hAnd h1 h2 c = (match h1 c with
  | some (.bl true) => h2 c
  | some (.bl false) => some (.bl false)
  | _ => none) := (rfl)
@[simp] theorem x_hNot (h1 : Hx) (c : Str) : hNot h1 c = (match h1 c with
  | some (.bl k) => some (.bl (!k))
  | _ => none) := (rfl)
/-! places -/
theorem atI_ofNat {α : Type} (xs : List α) (k : Nat) (x : α) (h : xs[k]? = some x) : L2.atI xs (k : Int) = some x := L2.atI_nat h
theorem atI_pos {α : Type} {xs : List α} {i : Int} (h0 : 0 ≤ i) : L2.atI xs i = xs[i.toNat]? := by
  unfold L2.atI L2.ixN
  rw [if_pos h0]
  split
  · rfl
  · rw [List.getElem?_eq_none (by omega)]; rfl
/-! values of the same shape -/
def dep : D → Nat := fun d => PyData.depth (toPy d)
/-! loops over a mapped list -/
theorem lp_foldM {α β : Type} {t : Gx} {f : Sx} {h : β → D} (st : α → Rho → Prop) (g : α → β → α) : ∀ (xs : List β) (a : α) (ρ : Rho), st a ρ →
    (∀ a x ρ, x ∈ xs → st a ρ → ∃ ρ1, t (h x) ρ = some ρ1 ∧ ∃ ρ', f ρ1 = .ok (.next ρ') ∧ st (g a x) ρ') → ∃ ρ', lp t f (xs.map h) ρ = .ok (.next ρ') ∧ st (xs.foldl g a) ρ'
  | [], a, ρ, h0, _ => ⟨ρ, rfl, h0⟩
  | x :: xs, a, ρ, h0, hs => by
    obtain ⟨ρ1, h1, ρ', h2, h3⟩ := hs a x ρ List.mem_cons_self h0
    obtain ⟨ρ2, h4, h5⟩ := lp_foldM (t := t) (f := f) (h := h) st g xs (g a x) ρ' h3 fun a y ρ hy => hs a y ρ (List.mem_cons_of_mem _ hy)
    refine ⟨ρ2, ?_, h5⟩
    rw [List.map_cons, x_lp1, h1, liftO_some, bind_ok, h2, bind_ok, x_aft1, h4]
theorem lp_invM {β : Type} {t : Gx} {f : Sx} {h : β → D} (I : Rho → Prop) (xs : List β) (ρ : Rho) (h0 : I ρ)
    (hs : ∀ x ρ, x ∈ xs → I ρ → ∃ ρ1, t (h x) ρ = some ρ1 ∧ ∃ ρ', f ρ1 = .ok (.next ρ') ∧ I ρ') : ∃ ρ', lp t f (xs.map h) ρ = .ok (.next ρ') ∧ I ρ' :=
  lp_foldM (fun (_ : Unit) ρ => I ρ) (fun _ _ => ()) xs () ρ h0 fun _ x ρ hx hi => hs x ρ hx hi
theorem lp_inv {t : Gx} {f : Sx} (I : Rho → Prop) (ds : List D) (ρ : Rho) (h0 : I ρ)
    (hs : ∀ x ρ, x ∈ ds → I ρ → ∃ ρ1, t x ρ = some ρ1 ∧ ∃ ρ', f ρ1 = .ok (.next ρ') ∧ I ρ') : ∃ ρ', lp t f ds ρ = .ok (.next ρ') ∧ I ρ' := by
  have := lp_invM (t := t) (f := f) (h := id) I ds ρ h0 hs
  rwa [List.map_id] at this
/-- by the turn: a is what stands behind i turns -/
theorem lp_numM {β : Type} {t : Gx} {f : Sx} {h : β → D} (xs : List β) (I : Nat → Rho → Prop) (ρ : Rho) (h0 : I 0 ρ)
    (hs : ∀ i x ρ, xs[i]? = some x → I i ρ → ∃ ρ1, t (h x) ρ = some ρ1 ∧ ∃ ρ', f ρ1 = .ok (.next ρ') ∧ I (i + 1) ρ') : ∃ ρ', lp t f (xs.map h) ρ = .ok (.next ρ') ∧ I xs.length ρ' := by
  have aux : ∀ (ys : List β) (k : Nat) (ρ : Rho), xs.drop k = ys → I k ρ → ∃ ρ', lp t f (ys.map h) ρ = .ok (.next ρ') ∧ I (k + ys.length) ρ' := fun ys => by
    induction ys with
    | nil => exact fun k ρ _ hk => ⟨ρ, rfl, hk⟩
    | cons y ys ih =>
      intro k ρ e hk
      have hy : xs[k]? = some y := by
        have := congrArg (fun l => l[0]?) e
        simpa using this
      obtain ⟨ρ1, h1, ρ', h2, h3⟩ := hs k y ρ hy hk
      obtain ⟨ρ2, h4, h5⟩ := ih (k + 1) ρ' (by rw [← List.drop_drop, e]; rfl) h3
      refine ⟨ρ2, ?_, by rw [List.length_cons, Nat.add_comm ys.length 1, ← Nat.add_assoc]; exact h5⟩
      rw [List.map_cons, x_lp1, h1, liftO_some, bind_ok, h2, bind_ok, x_aft1, h4]
  have := aux xs 0 ρ rfl h0
  rwa [Nat.zero_add] at this
theorem lp_allM {β : Type} {t : Gx} {f : Sx} {h : β → D} (I : Rho → Prop) (p : β → Bool) (z : D) : ∀ (xs : List β) (ρ : Rho), I ρ → (∀ x ρ, x ∈ xs → I ρ → ∃ ρ1, t (h x) ρ = some ρ1 ∧ ∃ ρ', f ρ1 = (if p x = true then .ok (.next ρ') else .ok (.ret (.v z) ρ')) ∧ I ρ') →
    ∃ ρ', lp t f (xs.map h) ρ = (if xs.all p = true then .ok (.next ρ') else .ok (.ret (.v z) ρ')) ∧ I ρ'
  | [], ρ, h0, _ => ⟨ρ, rfl, h0⟩
  | d :: ds, ρ, h0, hs => by
    obtain ⟨ρ1, h1, ρ', h2, h3⟩ := hs d ρ List.mem_cons_self h0
    rw [List.map_cons, x_lp1, h1]
    simp only [liftO_some, bind_ok, h2, List.all_cons]
    by_cases hp : p d = true
    · obtain ⟨ρ2, h4, h5⟩ := lp_allM (t := t) (f := f) (h := h) I p z ds ρ' h3 fun d' ρ hd => hs d' ρ (List.mem_cons_of_mem _ hd)
      refine ⟨ρ2, ?_, h5⟩
      rw [if_pos hp, bind_ok, x_aft1, h4]
      simp [hp]
    · refine ⟨ρ', ?_, h3⟩
      rw [if_neg hp, bind_ok, x_aft4]
      simp [hp]
/-- the reckoning raises c -/
def isX {α : Type} (r : Out α) (c : Str) : Prop := match r with
  | .exc c' _ => c' = c
  | _ => False
@[simp] theorem x_isX {α : Type} (c c' : Str) (ρ : Rho) : isX (Out.exc c ρ : Out α) c' = (c = c') := (rfl)
theorem isX_is {α : Type} {r : Out α} {c : Str} (h : isX r c) : ∃ ρ, r = .exc c ρ := by
  cases r with
  | ok a => exact h.elim
  | stuck => exact h.elim
  | exc c' ρ => cases (show c' = c from h); exact ⟨ρ, rfl⟩
theorem x_int2 (i j : Int) (h : -4611686018427387904 ≤ i ∧ i < 4611686018427387904 ∧ -4611686018427387904 ≤ j ∧ j < 4611686018427387904) : int2 [.int i, .int j] = some (i, j) := by
  unfold int2
  exact if_pos h
theorem x_int1' (j : Int) (h : -4611686018427387904 ≤ j ∧ j < 4611686018427387904) : PL.int1 [.int j] = some j := by
  unfold PL.int1
  exact if_pos h
/-- a loop that appends -/
theorem lp_acc {β : Type} {t : Gx} {f : Sx} {h : β → D} (St : List D → Rho → Prop) (p : β → Bool) (k : β → D) (N : Nat) : ∀ (xs : List β) (acc : List D) (ρ : Rho), acc.length + xs.length ≤ N → St acc ρ →
    (∀ x acc ρ, x ∈ xs → acc.length < N → St acc ρ → ∃ ρ1, t (h x) ρ = some ρ1 ∧ ∃ ρ', f ρ1 = .ok (.next ρ') ∧ St (if p x = true then acc ++ [k x] else acc) ρ') → ∃ ρ', lp t f (xs.map h) ρ = .ok (.next ρ') ∧ St (acc ++ (xs.filter p).map k) ρ'
  | [], acc, ρ, _, h0, _ => ⟨ρ, rfl, by simpa using h0⟩
  | x :: xs, acc, ρ, hN, h0, hs => by
    rw [List.length_cons] at hN
    obtain ⟨ρ1, h1, ρ', h2, h3⟩ := hs x acc ρ List.mem_cons_self (by omega) h0
    have hl : (if p x = true then acc ++ [k x] else acc).length + xs.length ≤ N := by
      split
      · rw [List.length_append, List.length_singleton]; omega
      · omega
    obtain ⟨ρ2, h4, h5⟩ := lp_acc (t := t) (f := f) (h := h) St p k N xs _ ρ' hl h3 fun y acc ρ hy => hs y acc ρ (List.mem_cons_of_mem _ hy)
    refine ⟨ρ2, ?_, ?_⟩
    · rw [List.map_cons, x_lp1, h1, liftO_some, bind_ok, h2, bind_ok, x_aft1, h4]
    · by_cases hp : p x = true
      · rw [if_pos hp] at h5
        rw [List.filter_cons_of_pos hp, List.map_cons]
        rw [List.append_assoc] at h5
        exact h5
      · rw [if_neg hp] at h5
        rw [List.filter_cons_of_neg hp]
        exact h5
theorem rg_zip {β : Type} (xs : List β) : rgD 0 xs.length = xs.zipIdx.map fun p => .int ((p.2 : Nat) : Int) := by
  apply List.ext_getElem?
  intro i
  unfold rgD
  rw [List.getElem?_map, List.getElem?_map, List.getElem?_zipIdx]
  by_cases hi : i < xs.length
  · rw [List.getElem?_range hi, List.getElem?_eq_getElem hi]
    simp
  · rw [List.getElem?_eq_none (by simpa using hi), List.getElem?_eq_none (by simpa using hi)]
    rfl
theorem en_zip {β : Type} (h : β → D) (xs : List β) : enD 0 (xs.map h) = xs.zipIdx.map fun p => .tup [.int ((p.2 : Nat) : Int), h p.1] := by
  apply List.ext_getElem?
  intro i
  rw [enD_get, List.getElem?_map, List.getElem?_map, List.getElem?_zipIdx]
  cases xs[i]? <;> rfl
theorem mem_zip {β : Type} {xs : List β} {p : β × Nat} (h : p ∈ xs.zipIdx) : xs[p.2]? = some p.1 := by
  rw [List.mem_zipIdx_iff_getElem?] at h
  exact h
theorem lc_eqM {β : Type} {l vs : List Nat} {ft : Gx} {tt : Tx} {fe : Ex} {ρ0 : Rho} {h0 : β → D} (c : β → Bool) (k : β → D) : ∀ (xs : List β) (acc : List D), acc.length + xs.length ≤ 16777216 →
    (∀ x, x ∈ xs → ∃ ρ1 ρ2, ft (h0 x) ρ0 = some ρ1 ∧ tt ρ1 = .ok (c x, ρ2) ∧ (c x = true → ∃ ρ3, eF l fe ρ2 = .ok (k x, ρ3) ∧ wipeE ρ3 vs = ρ0) ∧ (c x = false → wipeE ρ2 vs = ρ0)) →
    lcLp l vs ft tt fe (xs.map h0) ρ0 acc = .ok (acc ++ (xs.filter c).map k, ρ0)
  | [], acc, _, _ => by simp [lcLp]
  | d :: ds, acc, hl, hs => by
    obtain ⟨ρ1, ρ2, h1, h2, h3, h3'⟩ := hs d List.mem_cons_self
    have ih := fun acc' hl' => lc_eqM (l := l) (vs := vs) (ft := ft) (tt := tt) (fe := fe) (ρ0 := ρ0) (h0 := h0) c k ds acc' hl' fun d' hd => hs d' (List.mem_cons_of_mem _ hd)
    rw [List.length_cons] at hl
    rw [List.map_cons, lcLp, h1, liftO_some, bind_ok, h2, bind_ok]
    by_cases hc : c d = true
    · obtain ⟨ρ3, h4, h5⟩ := h3 hc
      rw [if_pos hc, h4, bind_ok, if_pos (by omega), h5, ih (acc ++ [k d]) (by rw [List.length_append, List.length_singleton]; omega)]
      rw [List.filter_cons_of_pos hc, List.map_cons, List.append_assoc]
      rfl
    · rw [if_neg hc, h3' (by simpa using hc), ih acc (by omega), List.filter_cons_of_neg hc]
theorem lc_mapM {β : Type} {l vs : List Nat} {ft : Gx} {fe : Ex} {ρ0 : Rho} {h0 : β → D} (k : β → D) (xs : List β) (hl : xs.length ≤ 16777216)
    (hs : ∀ x, x ∈ xs → ∃ ρ1 ρ3, ft (h0 x) ρ0 = some ρ1 ∧ eF l fe ρ1 = .ok (k x, ρ3) ∧ wipeE ρ3 vs = ρ0) : lcLp l vs ft tsNo fe (xs.map h0) ρ0 [] = .ok (xs.map k, ρ0) := by
  rw [lc_eqM (fun _ => true) k xs [] (by simpa using hl) fun d hd => ?_]
  · rw [List.filter_eq_self.mpr (fun _ _ => rfl)]
    rfl
  · obtain ⟨ρ1, ρ3, h1, h2, h3⟩ := hs d hd
    exact ⟨ρ1, ρ1, h1, rfl, fun _ => ⟨ρ3, h2, h3⟩, fun z => by cases z⟩
@[simp] theorem x_mulT (a : List D) (k : Int) : dMul (.tup a) (.int k) = if 0 < a.length ∧ a.length ≤ 1000 ∧ 2 ≤ k ∧ k ≤ 1000 then some (.v (.tup (List.replicate k.toNat a).flatten)) else none := (rfl)
@[simp] theorem x_mulLs (a : List D) (k : Int) : dMul (.lst a) (.int k) = if a.length * k.toNat ≤ 16777216 ∧ -9223372036854775808 ≤ k ∧ k < 9223372036854775808 then some (.o (.lst (List.replicate k.toNat a).flatten)) else none := (rfl)
@[simp] theorem x_min2 (i j : Int) : dMin [.int i, .int j] = some (.v (.int (if j < i then j else i))) := (rfl)
@[simp] theorem x_max2 (i j : Int) : dMax [.int i, .int j] = some (.v (.int (if j > i then j else i))) := (rfl)
theorem x_mulL {a b : Int} (h : a.natAbs < 18446744073709551616) : dMul (.int a) (.int b) = some (.v (.int (a * b))) := by rw [x_mul, if_pos (mulOk_l h)]
theorem x_mulR {a b : Int} (h : b.natAbs < 18446744073709551616) : dMul (.int a) (.int b) = some (.v (.int (a * b))) := by rw [x_mul, if_pos (mulOk_r h)]
end PL

/-! what the mirrors compute: dicts, texts, in-out calls -/
namespace PL
open PySem PySem.Spec PyProof.Rows L2
section
variable {ρ : Rho} {l : List Nat}
@[simp] theorem x_len1T (ds : List D) : dLen1 [.tup ds] = some (.v (.int ds.length)) := (rfl)
@[simp] theorem x_len1L (ds : List D) : dLen1 [.lst ds] = some (.v (.int ds.length)) := (rfl)
@[simp] theorem x_len1K (ds : List D) : dLen1 [.ktp ds] = some (.v (.int ds.length)) := (rfl)
@[simp] theorem x_len1S (ds : List Int) : dLen1 [.scr ds] = some (.v (.int ds.length)) := (rfl)
@[simp] theorem x_len1Z (z : Str) : dLen1 [.str z] = if z.length ≤ 16777216 then some (.v (.int z.length)) else none := (rfl)
@[simp] theorem x_len1D (kvs : List (D × D)) : dLen1 [.dic false kvs] = some (.v (.int kvs.length)) := (rfl)
@[simp] theorem x_dnew (t : Bool) : eDNew t ρ = .ok (.o (.dic t []), ρ) := (rfl)
@[simp] theorem x_get2 (fo fk fx : Ex) : eGet2 l fo fk fx ρ = (fo ρ >>= fun p => PL.pk p.2 p.1 >>= fun d0 => liftO (isDic d0) >>= fun _ => fk p.2 >>= fun q => (fx q.2 >>= fun r => fz l r.1 r.2) >>= fun r => PL.pk r.2 p.1 >>= fun d => PL.pk r.2 q.1 >>= fun k => liftO (dGet d k) >>= fun o => .ok (.v (o.getD r.1), r.2)) := (rfl)
@[simp] theorem x_get1 (fo fk : Ex) : eGet1 fo fk ρ = (fo ρ >>= fun p => PL.pk p.2 p.1 >>= fun d0 => liftO (isDic d0) >>= fun _ => fk p.2 >>= fun q => PL.pk q.2 p.1 >>= fun d => PL.pk q.2 q.1 >>= fun k => liftO (dGet d k) >>= fun o => .ok (.v (o.getD .non), q.2)) := (rfl)
@[simp] theorem x_isDic (t : Bool) (kvs : List (D × D)) : isDic (.dic t kvs) = some () := (rfl)
@[simp] theorem x_dGetS (kvs : List (D × D)) (z : Str) : dGet (.dic false kvs) (.str z) = some (gGet false kvs [.inr z]) := (rfl)
@[simp] theorem x_dGetI (kvs : List (D × D)) (i : Int) : dGet (.dic false kvs) (.int i) = some (gGet false kvs [.inl i]) := (rfl)
@[simp] theorem x_ixDS (kvs : List (D × D)) (z : Str) : dIx (.dic false kvs) (.str z) = (gGet false kvs [.inr z]).map .v := (rfl)
@[simp] theorem x_ixDI (kvs : List (D × D)) (i : Int) : dIx (.dic false kvs) (.int i) = (gGet false kvs [.inl i]).map .v := (rfl)
@[simp] theorem x_ixZ (z : Str) (i : Int) : dIx (.str z) (.int i) = if z.length ≤ 16777216 then (atI z.cps.toList i).map fun c => .v (.str ⟨#[c]⟩) else none := (rfl)
@[simp] theorem x_inDS (kvs : List (D × D)) (z : Str) : dIn (.str z) (.dic false kvs) = some (gGet false kvs [.inr z]).isSome := (rfl)
@[simp] theorem x_inDI (kvs : List (D × D)) (i : Int) : dIn (.int i) (.dic false kvs) = some (gGet false kvs [.inl i]).isSome := (rfl)
@[simp] theorem x_inZ (a b : Str) : dIn (.str a) (.str b) = some (strIn a b) := (rfl)
@[simp] theorem x_notin (a b : D) : dNotIn a b = (dIn a b).map (!·) := (rfl)
@[simp] theorem x_setDS (kvs : List (D × D)) (z : Str) (v : D) : dSet (.dic false kvs) (.str z) v = if kvs.length < 16777216 then some (.dic false (gPut false kvs [.inr z] (.str z) v)) else none := (rfl)
@[simp] theorem x_setDI (kvs : List (D × D)) (z : Int) (v : D) : dSet (.dic false kvs) (.int z) v = if kvs.length < 16777216 then some (.dic false (gPut false kvs [.inl z] (.int z) v)) else none := (rfl)
@[simp] theorem x_itD (t : Bool) (kvs : List (D × D)) : dIter (.dic t kvs) = some (kvs.map (·.1)) := (rfl)
@[simp] theorem x_itZ (z : Str) : dIter (.str z) = some (z.cps.toList.map fun c => .str ⟨#[c]⟩) := (rfl)
@[simp] theorem x_gcd (a b : Int) : dGcd [.int a, .int b] = some (.v (.int (Nat.gcd a.natAbs b.natAbs : Nat))) := (rfl)
@[simp] theorem x_revL (ds : List D) : dRev (.lst ds) = some (.o (.lst ds.reverse)) := (rfl)
@[simp] theorem x_extend (ls zs : List D) : mExtend ls [.lst zs] = if ls.length + zs.length ≤ 16777216 then some (.non, ls ++ zs) else none := (rfl)
@[simp] theorem x_join (fo fe : Ex) : eJoin fo fe ρ = (fo ρ >>= fun p => liftO (strS p.1) >>= fun a => fe p.2 >>= fun q => PL.pk q.2 q.1 >>= fun d => liftO (dJoin a d) >>= fun s => .ok (s, q.2)) := (rfl)
@[simp] theorem x_strS (a : Str) : strS (.v (.str a)) = some a := (rfl)
@[simp] theorem x_iDc (sel : D → Option (List D)) (f : Ex) : iDc l sel f ρ = (f ρ >>= fun p => fz l p.1 p.2 >>= fun p => liftO (sel p.1) >>= fun ds => .ok (ds, p.2)) := by
  unfold iDc eF
  cases f ρ <;> rfl
@[simp] theorem x_vals (kvs : List (D × D)) : dVals (.dic false kvs) = some (kvs.map (·.2)) := (rfl)
@[simp] theorem x_items (kvs : List (D × D)) : dItems (.dic false kvs) = some (kvs.map fun p => .tup [p.1, p.2]) := (rfl)
@[simp] theorem x_iRg3 (fa : Ax) : iRg3 fa ρ = (fa ρ >>= fun p => pkL p.2 p.1 >>= fun ds => liftO (int3 ds) >>= fun j => .ok (rg3D j.1 j.2.2 (rgN j.1 j.2.1 j.2.2), p.2)) := (rfl)
/-! ### sorted -/
theorem strsD_map : ∀ zs : List Str, strsD (zs.map .str) = some zs
  | [] => rfl
  | z :: zs => by rw [List.map_cons]; unfold strsD; rw [strsD_map zs]; rfl
theorem intsD_map : ∀ zs : List Int, intsD (zs.map .int) = some zs
  | [] => rfl
  | z :: zs => by rw [List.map_cons]; unfold intsD; rw [intsD_map zs]; rfl
theorem x_srtI (zs : List Int) : dSrt [.lst (zs.map .int)] = some (.o (.lst ((srtI zs).map .int))) := by
  simp only [dSrt, intsD_map]
theorem x_srtS (zs : List Str) (h : zs.length < 64) : dSrt [.lst (zs.map .str)] = some (.o (.lst ((srtS zs).map .str))) := by
  cases zs with
  | nil => simp [dSrt, intsD, srtI, srtS]
  | cons z zs =>
    have e : intsD ((z :: zs).map D.str) = none := rfl
    simp only [dSrt, e, strsD_map]
    rw [if_pos h]
theorem x_srtST (zs : List Str) (h : zs.length < 64) : dSrt [.tup (zs.map .str)] = some (.o (.lst ((srtS zs).map .str))) := by
  simp only [dSrt, strsD_map]
  rw [if_pos h]
theorem x_srtIT (z : Int) (zs : List Int) (h : zs.length < 63) : dSrt [.tup ((z :: zs).map .int)] = some (.o (.lst ((srtI (z :: zs)).map .int))) := by
  have e : strsD ((z :: zs).map D.int) = none := rfl
  simp only [dSrt, e, intsD_map]
  rw [if_pos (by rw [List.length_cons]; omega)]
theorem x_srtDS {kvs : List (D × D)} {zs : List Str} (e : kvs.map (·.1) = zs.map .str) (h : zs.length < 64) : dSrt [.dic false kvs] = some (.o (.lst ((srtS zs).map .str))) := by
  simp only [dSrt, e, strsD_map]
  rw [if_pos h]
/-! ### dicts -/
theorem kOfS (z : Str) : kOf false (.str z) = some [.inr z] := rfl
theorem gGet_put {kvs : List (D × D)} {k k' : List Key} {kd v : D} (h : kOf false kd = some k) : gGet false (gPut false kvs k kd v) k' = if k' = k then some v else gGet false kvs k' := by
  unfold gPut
  split
  · rename_i hs
    by_cases e : k' = k
    · subst e
      rw [if_pos rfl]
      induction kvs with
      | nil => simp [gGet] at hs
      | cons p r ih =>
        rw [List.map_cons]
        by_cases e2 : kOf false p.1 = some k'
        · rw [if_pos e2, gGet_pos (by exact e2)]
        · rw [if_neg e2, gGet_neg e2]
          rw [gGet_neg e2] at hs
          exact ih hs
    · rw [if_neg e]
      clear hs
      induction kvs with
      | nil => rfl
      | cons p r ih =>
        rw [List.map_cons]
        by_cases e2 : kOf false p.1 = some k
        · rw [if_pos e2]
          have e3 : ¬ kOf false p.1 = some k' := fun z => e (by rw [e2] at z; exact (Option.some.inj z).symm)
          rw [gGet_neg (by exact e3), gGet_neg e3]
          exact ih
        · rw [if_neg e2]
          by_cases e3 : kOf false p.1 = some k'
          · rw [gGet_pos e3, gGet_pos e3]
          · rw [gGet_neg e3, gGet_neg e3]
            exact ih
  · rename_i hs
    induction kvs with
    | nil =>
      rw [List.nil_append]
      by_cases e : k' = k
      · subst e; rw [if_pos rfl, gGet_pos h]
      · rw [if_neg e, gGet_neg (by rw [h]; simpa using fun z => e z.symm)]
    | cons p r ih =>
      rw [List.cons_append]
      by_cases e2 : kOf false p.1 = some k
      · rw [gGet_pos e2] at hs; simp at hs
      · rw [gGet_neg e2] at hs
        by_cases e3 : kOf false p.1 = some k'
        · have e : ¬ k' = k := fun z => e2 (by rw [e3, z])
          rw [if_neg e, gGet_pos e3, gGet_pos e3]
        · rw [gGet_neg e3, gGet_neg e3]
          exact ih hs
theorem gPut_keys {kvs : List (D × D)} {k : List Key} {kd v : D} : (gPut false kvs k kd v).map (·.1) = if (gGet false kvs k).isSome = true then kvs.map (·.1) else kvs.map (·.1) ++ [kd] := by
  unfold gPut
  split
  · rw [List.map_map]
    refine List.map_congr_left fun p _ => ?_
    simp only [Function.comp]
    split <;> rfl
  · rw [List.map_append]; rfl
end
end PL

/-! the defs of kinds that many laws share -/
namespace Std
open PL PySem
def noD : D → Bool
  | .dic _ _ => false | .non => true | .bl _ => true | .int _ => true | .str _ => true | .tup _ => true | .lst _ => true | .scr _ => true | .ktp _ => true
def isW : D → Bool
  | .int _ => true
  | _ => false
def isWin (lo hi : Int) : D → Bool
  | .int i => decide (lo ≤ i) && decide (i ≤ hi)
  | _ => false
def isTup (lo hi : Int) : D → Bool
  | .tup ds => decide (lo ≤ ds.length) && decide (ds.length ≤ hi)
  | .ktp ds => decide (lo ≤ ds.length) && decide (ds.length ≤ hi)
  | _ => false
@[simp] theorem noD_non  : noD .non = true := (rfl)
@[simp] theorem isW_non  : isW .non = false := (rfl)
@[simp] theorem isWin_non (lo hi : Int)  : isWin lo hi .non = false := (rfl)
@[simp] theorem isTup_non (lo hi : Int)  : isTup lo hi .non = false := (rfl)
@[simp] theorem noD_bl (x : Bool) : noD (.bl x) = true := (rfl)
@[simp] theorem isW_bl (x : Bool) : isW (.bl x) = false := (rfl)
@[simp] theorem isWin_bl (lo hi : Int) (x : Bool) : isWin lo hi (.bl x) = false := (rfl)
@[simp] theorem isTup_bl (lo hi : Int) (x : Bool) : isTup lo hi (.bl x) = false := (rfl)
@[simp] theorem noD_int (x : Int) : noD (.int x) = true := (rfl)
@[simp] theorem isW_int (x : Int) : isW (.int x) = true := (rfl)
@[simp] theorem isWin_int (lo hi : Int) (x : Int) : isWin lo hi (.int x) = (decide (lo ≤ x) && decide (x ≤ hi)) := (rfl)
@[simp] theorem isTup_int (lo hi : Int) (x : Int) : isTup lo hi (.int x) = false := (rfl)
@[simp] theorem noD_str (x : Str) : noD (.str x) = true := (rfl)
@[simp] theorem isW_str (x : Str) : isW (.str x) = false := (rfl)
@[simp] theorem isWin_str (lo hi : Int) (x : Str) : isWin lo hi (.str x) = false := (rfl)
@[simp] theorem isTup_str (lo hi : Int) (x : Str) : isTup lo hi (.str x) = false := (rfl)
@[simp] theorem noD_tup (x : List D) : noD (.tup x) = true := (rfl)
@[simp] theorem isW_tup (x : List D) : isW (.tup x) = false := (rfl)
@[simp] theorem isWin_tup (lo hi : Int) (x : List D) : isWin lo hi (.tup x) = false := (rfl)
@[simp] theorem isTup_tup (lo hi : Int) (x : List D) : isTup lo hi (.tup x) = (decide (lo ≤ x.length) && decide (x.length ≤ hi)) := (rfl)
@[simp] theorem noD_lst (x : List D) : noD (.lst x) = true := (rfl)
@[simp] theorem isW_lst (x : List D) : isW (.lst x) = false := (rfl)
@[simp] theorem isWin_lst (lo hi : Int) (x : List D) : isWin lo hi (.lst x) = false := (rfl)
@[simp] theorem isTup_lst (lo hi : Int) (x : List D) : isTup lo hi (.lst x) = false := (rfl)
@[simp] theorem noD_scr (x : List Int) : noD (.scr x) = true := (rfl)
@[simp] theorem isW_scr (x : List Int) : isW (.scr x) = false := (rfl)
@[simp] theorem isWin_scr (lo hi : Int) (x : List Int) : isWin lo hi (.scr x) = false := (rfl)
@[simp] theorem isTup_scr (lo hi : Int) (x : List Int) : isTup lo hi (.scr x) = false := (rfl)
@[simp] theorem noD_ktp (x : List D) : noD (.ktp x) = true := (rfl)
@[simp] theorem isW_ktp (x : List D) : isW (.ktp x) = false := (rfl)
@[simp] theorem isWin_ktp (lo hi : Int) (x : List D) : isWin lo hi (.ktp x) = false := (rfl)
@[simp] theorem isTup_ktp (lo hi : Int) (x : List D) : isTup lo hi (.ktp x) = (decide (lo ≤ x.length) && decide (x.length ≤ hi)) := (rfl)
@[simp] theorem noD_dic (t : Bool) (k : List (D × D)) : noD (.dic t k) = false := (rfl)
def b_is_tuple_of : Sx := sRet [] (eAnd (bE (tIsi (isT .tuple) (eVar 0))) (bE (tCh dLe dLe (eVar 1) (eB dLen1 (aCons (eVar 0) (aNil))) (eVar 2))))
def m_is_tuple_of : Fn := runF 0 b_is_tuple_of
def b_is_whole : Sx := sRet [] (eAnd (bE (tIsi (isT .int) (eVar 0))) (eNot (bE (tIsi (isT .bool) (eVar 0)))))
def m_is_whole : Fn := runF 0 b_is_whole
def b_is_whole_in : Sx := sRet [] (eAnd (eCall [] 1 m_is_whole (aCons (eVar 0) (aNil))) (bE (tCh dLe dLe (eVar 1) (eVar 0) (eVar 2))))
def m_is_whole_in : Fn := runF 0 b_is_whole_in
theorem s_is_whole (d : D) (h : noD d = true) : m_is_whole [d] = .ok (.v (.bl (isW d))) := by
  cases d <;> first | (simp at h; done) | simp [m_is_whole, b_is_whole]
theorem s_is_whole_in (d : D) (lo hi : Int) (h : noD d = true) : m_is_whole_in [d, .int lo, .int hi] = .ok (.v (.bl (isWin lo hi d))) := by
  cases d <;> first | (simp at h; done) | simp [m_is_whole_in, b_is_whole_in, s_is_whole]
  all_goals (split <;> simp_all <;> omega)
theorem s_is_tuple_of (d : D) (lo hi : Int) (h : noD d = true) : m_is_tuple_of [d, .int lo, .int hi] = .ok (.v (.bl (isTup lo hi d))) := by
  cases d <;> first | (simp at h; done) | simp [m_is_tuple_of, b_is_tuple_of]
  all_goals (split <;> simp_all <;> omega)
end Std

namespace Std
open PL PySem
def c_LETTERS : D := .str "abcdefghijklmnopqrstuvwxyz"
def c_DIGITS : D := .str "0123456789"
def b_is_name_f1 : Sx := sIf (tAnd (t2 dNotIn (eVar 1) (eC c_LETTERS)) (t2 dNotIn (eVar 1) (eC c_DIGITS))) (sRet [] (eC (.bl false))) (sNil)
def b_is_name : Sx := sSeq (sIf (tNot (tIsi (isT .str) (eVar 0))) (sRet [] (eC (.bl false))) (sNil)) (sSeq (sIf (tOr (t2 dLt (eB dLen1 (aCons (eVar 0) (aNil))) (eC (.int 1))) (t2 dGt (eB dLen1 (aCons (eVar 0) (aNil))) (eC (.int 8)))) (sRet [] (eC (.bl false))) (sNil)) (sSeq (sIf (t2 dNotIn (e2 dIx (eVar 0) (eC (.int 0))) (eC c_LETTERS)) (sRet [] (eC (.bl false))) (sNil)) (sSeq (sFor (iVal [] (eVar 0)) (gNm [] 1) b_is_name_f1) (sRet [] (eC (.bl true))))))
def m_is_name : Fn := runF 1 b_is_name
def isLet (c : Nat) : Bool := strIn ⟨#[c]⟩ "abcdefghijklmnopqrstuvwxyz"
def isDig (c : Nat) : Bool := strIn ⟨#[c]⟩ "0123456789"
def nameB (z : Str) : Bool := decide (1 ≤ z.length ∧ z.length ≤ 8) && (match z.cps.toList with
  | [] => false
  | c :: _ => isLet c) && z.cps.toList.all fun c => isLet c || isDig c
def isNm : D → Bool
  | .str z => nameB z
  | _ => false
theorem s_is_nameS (z : Str) (hz : z.length ≤ 16777216) : m_is_name [.str z] = .ok (.v (.bl (nameB z))) := by
  obtain ⟨⟨l⟩⟩ := z
  have hlen : (Str.mk ⟨l⟩).length = l.length := rfl
  by_cases h1 : 1 ≤ l.length ∧ l.length ≤ 8
  · cases l with
    | nil => simp at h1
    | cons c l =>
      have g : L2.atI (c :: l) 0 = some c := atI_ofNat (c :: l) 0 c rfl
      obtain ⟨ρ', e1, _⟩ := lp_allM (t := gNm [] 1) (f := b_is_name_f1) (h := fun c : Nat => D.str ⟨#[c]⟩) (fun ρ => ∃ x, ρ = [some (.v (.str ⟨⟨c :: l⟩⟩)), x]) (fun c => isLet c || isDig c) (.bl false) (c :: l) [some (.v (.str ⟨⟨c :: l⟩⟩)), none] ⟨none, rfl⟩ (fun x ρ _ ⟨y, e⟩ => by
        subst e
        refine ⟨_, rfl, [some (.v (.str ⟨⟨c :: l⟩⟩)), some (.v (.str ⟨#[x]⟩))], ?_, _, rfl⟩
        cases ha : isLet x <;> cases hb : isDig x <;> (unfold isLet at ha; unfold isDig at hb; simp [b_is_name_f1, c_LETTERS, c_DIGITS, ha, hb]))
      have l1 : ¬ ((l.length : Int) + 1 < 1) := by omega
      have l2 : ¬ ((8 : Int) < (l.length : Int) + 1) := by simp at h1; omega
      have l3 : l.length + 1 ≤ 16777216 := by simp at h1; omega
      cases hc : isLet c with
      | false =>
        have hn : nameB ⟨⟨c :: l⟩⟩ = false := by simp [nameB, hc]
        rw [hn]
        unfold isLet at hc
        simp [m_is_name, b_is_name, c_LETTERS, c_DIGITS, hlen, l1, l2, l3, g, hc]
      | true =>
        have hn : nameB ⟨⟨c :: l⟩⟩ = ((c :: l).all fun c => isLet c || isDig c) := by
          have h2 : 1 ≤ (Str.mk ⟨c :: l⟩).length ∧ (Str.mk ⟨c :: l⟩).length ≤ 8 := h1
          simp [nameB, hc, h2]
        rw [hn]
        unfold isLet at hc
        simp [m_is_name, b_is_name, c_LETTERS, c_DIGITS, hlen, l1, l2, l3, g, hc]
        simp only [List.map_cons] at e1
        rw [e1]
        show _ = Out.ok (S.v (D.bl ((c :: l).all fun c => isLet c || isDig c)))
        cases ((c :: l).all fun c => isLet c || isDig c) <;> simp
  · have hn : nameB ⟨⟨l⟩⟩ = false := by
      have : ¬ (1 ≤ (Str.mk ⟨l⟩).length ∧ (Str.mk ⟨l⟩).length ≤ 8) := h1
      simp [nameB, this]
    rw [hn]
    have hl : l.length ≤ 16777216 := hz
    by_cases h2 : l.length < 1
    · have : (l.length : Int) < 1 := by omega
      simp [m_is_name, b_is_name, hlen, hl, this]
    · have h3 : ¬ (l.length : Int) < 1 := by omega
      have h4 : (8 : Int) < l.length := by omega
      simp [m_is_name, b_is_name, hlen, hl, h3, h4]
theorem s_is_name0 (d : D) (h : noD d = true) (hd : isT .str d = some false) : m_is_name [d] = .ok (.v (.bl false)) := by
  simp [m_is_name, b_is_name, hd]
theorem joinL_one : ∀ cs : List Nat, TL.joinL [] (cs.map fun c => [c]) = cs
  | [] => rfl
  | [c] => rfl
  | c :: d :: cs => by
    have ih := joinL_one (d :: cs)
    rw [List.map_cons] at ih
    rw [List.map_cons, List.map_cons, TL.joinL, ih]
    rfl
theorem join_one (cs : List Nat) : Txt.join "" (cs.map fun c => (⟨#[c]⟩ : Str)) = ⟨cs.toArray⟩ := by
  have h := SX.join_S [] (cs.map fun c => [c])
  rw [List.map_map, joinL_one] at h
  exact h
/-- the texts of small letters and digits that begin with a letter -/
def letC (c : Nat) : Bool := decide (97 ≤ c ∧ c ≤ 122)
def digC (c : Nat) : Bool := decide (48 ≤ c ∧ c ≤ 57)
theorem isLet_of {c : Nat} (h : letC c = true) : isLet c = true := by
  have h : 97 ≤ c ∧ c ≤ 122 := by simpa [letC] using h
  have key : ∀ k, k < 26 → isLet (97 + k) = true := by decide +kernel
  have := key (c - 97) (by omega)
  rwa [show 97 + (c - 97) = c by omega] at this
theorem isDig_of {c : Nat} (h : digC c = true) : isDig c = true := by
  have h : 48 ≤ c ∧ c ≤ 57 := by simpa [digC] using h
  have key : ∀ k, k < 10 → isDig (48 + k) = true := by decide +kernel
  have := key (c - 48) (by omega)
  rwa [show 48 + (c - 48) = c by omega] at this
def Nam (z : Str) : Prop := ∃ c cs, z = ⟨(c :: cs).toArray⟩ ∧ letC c = true ∧ cs.length ≤ 7 ∧ ∀ d ∈ cs, letC d = true ∨ digC d = true
theorem Nam.nameB {z : Str} (h : Nam z) : nameB z = true := by
  obtain ⟨c, cs, rfl, h1, h2, h3⟩ := h
  have hl : 1 ≤ (Str.mk (c :: cs).toArray).length ∧ (Str.mk (c :: cs).toArray).length ≤ 8 := by
    show 1 ≤ (c :: cs).length ∧ (c :: cs).length ≤ 8
    rw [List.length_cons]; omega
  unfold Std.nameB
  simp only [hl, isLet_of h1, decide_true, Bool.true_and, and_self, List.all_eq_true, Bool.or_eq_true]
  intro d hd
  rcases List.mem_cons.mp hd with e | hd
  · subst e; exact .inl (isLet_of h1)
  · rcases h3 d hd with h | h
    · exact .inl (isLet_of h)
    · exact .inr (isDig_of h)
theorem Nam.len {z : Str} (h : Nam z) : z.length ≤ 8 := by
  obtain ⟨c, cs, rfl, h1, h2, h3⟩ := h
  show (c :: cs).length ≤ 8
  rw [List.length_cons]; omega
theorem Nam.is {z : Str} (h : Nam z) : m_is_name [.str z] = .ok (.v (.bl true)) := by
  rw [s_is_nameS z (by have := h.len; omega), h.nameB]
end Std

/-! rules for loops and comprehensions where they stand in a goal -/
namespace PL
open PySem PySem.Spec PyProof.Rows L2
section
variable {α β : Type}
@[simp] theorem bnd_assoc {γ δ : Type} (k2 : γ → Out δ) (w2 : Wit k2) (k : β → Out γ) (w : Wit k) (r : Out β) : bnd k2 w2 (bnd k w r) = bnd (fun a => bnd k2 () (k a)) () r := by
  cases r <;> rfl
theorem bnd_ite {γ : Type} (k : β → Out γ) (w : Wit k) (c : Prop) [Decidable c] (a b : Out β) : bnd k w (if c then a else b) = if c then bnd k w a else bnd k w b := by
  split <;> rfl
/-- what a turn of a loop ends in: on with J, or out to k -/
def Aft (J : Rho → Prop) (k : Fl → Out α) (P : Out α → Prop) : Out Fl → Prop
  | .ok (.next ρ) => J ρ
  | .ok (.cnt ρ) => J ρ
  | .ok (.brk ρ) => P (k (.next ρ))
  | .ok (.ret s ρ) => P (k (.ret s ρ))
  | .exc c ρ => P (.exc c ρ)
  | .stuck => False
section
variable {J : Rho → Prop} {k : Fl → Out α} {P : Out α → Prop} {ρ : Rho}
@[simp] theorem aft_next : Aft J k P (.ok (.next ρ)) = J ρ := (rfl)
@[simp] theorem aft_cnt : Aft J k P (.ok (.cnt ρ)) = J ρ := (rfl)
@[simp] theorem aft_brk : Aft J k P (.ok (.brk ρ)) = P (k (.next ρ)) := (rfl)
@[simp] theorem aft_ret (s : S) : Aft J k P (.ok (.ret s ρ)) = P (k (.ret s ρ)) := (rfl)
@[simp] theorem aft_exc (c : Str) : Aft J k P (.exc c ρ) = P (.exc c ρ) := (rfl)
@[simp] theorem aft_stuck : Aft J k P .stuck = False := (rfl)
@[simp] theorem aft_ite (c : Prop) [Decidable c] (a b : Out Fl) : Aft J k P (if c then a else b) = if c then Aft J k P a else Aft J k P b := by
  split <;> rfl
end
@[simp] theorem aft_lp {J : Rho → Prop} {k : Fl → Out α} {P : Out α → Prop} (t : Gx) (f : Sx) (ds : List D) (ρ : Rho) : Aft J k P (lp t f ds ρ) = Aft J k P (bnd (fun a => .ok a) () (lp t f ds ρ)) := by
  cases lp t f ds ρ <;> rfl
@[simp] theorem isX_lp (t : Gx) (f : Sx) (ds : List D) (ρ : Rho) (c : Str) : isX (lp t f ds ρ) c = isX (bnd (fun a => .ok a) () (lp t f ds ρ)) c := by
  cases lp t f ds ρ <;> rfl
def Turn (t : Gx) (f : Sx) (d : D) (ρ : Rho) (J : Rho → Prop) (k : Fl → Out α) (P : Out α → Prop) : Prop := Aft J k P (bnd f () (liftO (t d ρ)))
@[simp] theorem x_turn (t : Gx) (f : Sx) (d : D) (ρ : Rho) (J : Rho → Prop) (k : Fl → Out α) (P : Out α → Prop) : Turn t f d ρ J k P = Aft J k P (bnd f () (liftO (t d ρ))) := (rfl)
theorem lp_P {t : Gx} {f : Sx} {h : β → D} {k : Fl → Out α} {w : Wit k} {P : Out α → Prop} {ds : List D} {ρ : Rho} (xs : List β) (J : Nat → Rho → Prop) (hd : ds = xs.map h) (h0 : J 0 ρ)
    (hs : ∀ i x ρ, xs[i]? = some x → J i ρ → Turn t f (h x) ρ (J (i + 1)) k P) (he : ∀ ρ, J xs.length ρ → P (k (.next ρ))) : P (bnd k w (lp t f ds ρ)) := by
  subst hd
  have aux : ∀ (ys : List β) (n : Nat) (ρ : Rho), xs.drop n = ys → n + ys.length = xs.length → J n ρ → P (bnd k w (lp t f (ys.map h) ρ)) := fun ys => by
    induction ys with
    | nil => intro n ρ _ hl hj; exact he ρ (by rw [← hl]; exact hj)
    | cons y ys ih =>
      intro n ρ e hl hj
      have hy : xs[n]? = some y := by
        have := congrArg (fun l => l[0]?) e
        simpa using this
      have s := hs n y ρ hy hj
      have e' : xs.drop (n + 1) = ys := by rw [← List.drop_drop, e]; rfl
      have ih' := fun ρ' => ih (n + 1) ρ' e' (by rw [List.length_cons] at hl; omega)
      rw [List.map_cons, x_lp1]
      unfold Turn at s
      have e0 : (liftO (t (h y) ρ) >>= fun ρ1 => f ρ1 >>= aft (lp t f (ys.map h))) = (bnd f () (liftO (t (h y) ρ)) >>= aft (lp t f (ys.map h))) := by
        cases liftO (t (h y) ρ) <;> rfl
      rw [e0]
      revert s
      generalize bnd f () (liftO (t (h y) ρ)) = r
      intro s
      cases r with
      | stuck => exact s.elim
      | exc c ρ' => exact s
      | ok fl =>
        cases fl with
        | next ρ' => exact ih' ρ' s
        | cnt ρ' => exact ih' ρ' s
        | brk ρ' => exact s
        | ret z ρ' => exact s
  exact aux xs 0 ρ rfl (by omega) h0
theorem lp_eq {t : Gx} {f : Sx} {h : β → D} {k : Fl → Out α} {w : Wit k} {o : Out α} {ds : List D} {ρ : Rho} (xs : List β) (J : Nat → Rho → Prop) (hd : ds = xs.map h) (h0 : J 0 ρ)
    (hs : ∀ i x ρ, xs[i]? = some x → J i ρ → Turn t f (h x) ρ (J (i + 1)) k (· = o)) (he : ∀ ρ, J xs.length ρ → k (.next ρ) = o) : bnd k w (lp t f ds ρ) = o := lp_P (P := (· = o)) xs J hd h0 hs he
theorem lp_x {t : Gx} {f : Sx} {h : β → D} {k : Fl → Out α} {w : Wit k} {c : Str} {ds : List D} {ρ : Rho} (xs : List β) (J : Nat → Rho → Prop) (hd : ds = xs.map h) (h0 : J 0 ρ)
    (hs : ∀ i x ρ, xs[i]? = some x → J i ρ → Turn t f (h x) ρ (J (i + 1)) k (isX · c)) (he : ∀ ρ, J xs.length ρ → isX (k (.next ρ)) c) : isX (bnd k w (lp t f ds ρ)) c := lp_P (P := (isX · c)) xs J hd h0 hs he
/-- over a range -/
theorem rg_P {t : Gx} {f : Sx} {k : Fl → Out α} {w : Wit k} {P : Out α → Prop} {lo : Int} {n : Nat} {ρ : Rho} (J : Nat → Rho → Prop) (h0 : J 0 ρ)
    (hs : ∀ i ρ, i < n → J i ρ → Turn t f (.int (lo + (i : Nat))) ρ (J (i + 1)) k P) (he : ∀ ρ, J n ρ → P (k (.next ρ))) : P (bnd k w (lp t f (rgD lo n) ρ)) := by
  refine lp_P (h := fun i : Nat => D.int (lo + (i : Nat))) (List.range n) J rfl h0 (fun i x ρ hx hj => ?_) (by rw [List.length_range]; exact he)
  obtain ⟨hi, e⟩ := List.getElem?_eq_some_iff.mp hx
  rw [List.getElem_range] at e
  subst e
  exact hs i ρ (by simpa using hi) hj
theorem rg_eq {t : Gx} {f : Sx} {k : Fl → Out α} {w : Wit k} {o : Out α} {lo : Int} {n : Nat} {ρ : Rho} (J : Nat → Rho → Prop) (h0 : J 0 ρ)
    (hs : ∀ i ρ, i < n → J i ρ → Turn t f (.int (lo + (i : Nat))) ρ (J (i + 1)) k (· = o)) (he : ∀ ρ, J n ρ → k (.next ρ) = o) : bnd k w (lp t f (rgD lo n) ρ) = o := rg_P (P := (· = o)) J h0 hs he
theorem rg_x {t : Gx} {f : Sx} {k : Fl → Out α} {w : Wit k} {c : Str} {lo : Int} {n : Nat} {ρ : Rho} (J : Nat → Rho → Prop) (h0 : J 0 ρ)
    (hs : ∀ i ρ, i < n → J i ρ → Turn t f (.int (lo + (i : Nat))) ρ (J (i + 1)) k (isX · c)) (he : ∀ ρ, J n ρ → isX (k (.next ρ)) c) : isX (bnd k w (lp t f (rgD lo n) ρ)) c := rg_P (P := (isX · c)) J h0 hs he
/-- over enumerate -/
theorem en_P {t : Gx} {f : Sx} {h : β → D} {k : Fl → Out α} {w : Wit k} {P : Out α → Prop} {ds : List D} {ρ : Rho} (xs : List β) (J : Nat → Rho → Prop) (hd : ds = xs.map h) (h0 : J 0 ρ)
    (hs : ∀ i x ρ, xs[i]? = some x → J i ρ → Turn t f (.tup [.int (i : Nat), h x]) ρ (J (i + 1)) k P) (he : ∀ ρ, J xs.length ρ → P (k (.next ρ))) : P (bnd k w (lp t f (enD 0 ds) ρ)) := by
  subst hd
  rw [en_zip]
  refine lp_P (h := fun p : β × Nat => D.tup [.int ((p.2 : Nat) : Int), h p.1]) xs.zipIdx J rfl h0 (fun i x ρ hx hj => ?_) (by rw [List.length_zipIdx]; exact he)
  rw [List.getElem?_zipIdx] at hx
  cases e : xs[i]? with
  | none => rw [e] at hx; cases hx
  | some y =>
    rw [e] at hx
    cases hx
    rw [Nat.zero_add]
    exact hs i y ρ e hj
theorem en_eq {t : Gx} {f : Sx} {h : β → D} {k : Fl → Out α} {w : Wit k} {o : Out α} {ds : List D} {ρ : Rho} (xs : List β) (J : Nat → Rho → Prop) (hd : ds = xs.map h) (h0 : J 0 ρ)
    (hs : ∀ i x ρ, xs[i]? = some x → J i ρ → Turn t f (.tup [.int (i : Nat), h x]) ρ (J (i + 1)) k (· = o)) (he : ∀ ρ, J xs.length ρ → k (.next ρ) = o) : bnd k w (lp t f (enD 0 ds) ρ) = o := en_P (P := (· = o)) xs J hd h0 hs he
/-- good items, then one that makes an end -/
theorem lp_bad {t : Gx} {f : Sx} {h : β → D} {k : Fl → Out α} {w : Wit k} {P : Out α → Prop} {ρ : Rho} (good : List β) (d : D) (rest : List D) (I : Rho → Prop) (h0 : I ρ)
    (hg : ∀ x ρ, x ∈ good → I ρ → Turn t f (h x) ρ I k P) (hb : ∀ ρ, I ρ → Turn t f d ρ (fun _ => False) k P) : P (bnd k w (lp t f (good.map h ++ d :: rest) ρ)) := by
  refine lp_P (h := id) (good.map h ++ d :: rest) (fun i ρ => i ≤ good.length ∧ I ρ) (by simp) ⟨Nat.zero_le _, h0⟩ (fun i x ρ hx ⟨hi, hI⟩ => ?_) (fun ρ ⟨hl, _⟩ => ?_)
  · by_cases hlt : i < good.length
    · rw [List.getElem?_append_left (by simpa using hlt), List.getElem?_map, List.getElem?_eq_getElem hlt] at hx
      cases hx
      have s := hg good[i] ρ (List.getElem_mem hlt) hI
      unfold Turn at s ⊢
      revert s
      show Aft I k P (bnd f () (liftO (t (h good[i]) ρ))) → Aft _ k P (bnd f () (liftO (t (h good[i]) ρ)))
      generalize bnd f () (liftO (t (h good[i]) ρ)) = r
      intro s
      cases r with
      | stuck => exact s
      | exc c ρ' => exact s
      | ok fl => cases fl <;> first | exact ⟨hlt, s⟩ | exact s
    · have e : i = good.length := by omega
      subst e
      rw [List.getElem?_append_right (by simp)] at hx
      simp at hx
      subst hx
      have s := hb ρ hI
      unfold Turn at s ⊢
      revert s
      show Aft _ k P (bnd f () (liftO (t d ρ))) → Aft _ k P (bnd f () (liftO (t d ρ)))
      generalize bnd f () (liftO (t d ρ)) = r
      intro s
      cases r with
      | stuck => exact s
      | exc c ρ' => exact s
      | ok fl => cases fl <;> first | exact s.elim | exact s
  · rw [List.length_append, List.length_map, List.length_cons] at hl
    omega
theorem lp_badx {t : Gx} {f : Sx} {h : β → D} {k : Fl → Out α} {w : Wit k} {c : Str} {ρ : Rho} (good : List β) (d : D) (rest : List D) (I : Rho → Prop) (h0 : I ρ)
    (hg : ∀ x ρ, x ∈ good → I ρ → Turn t f (h x) ρ I k (isX · c)) (hb : ∀ ρ, I ρ → Turn t f d ρ (fun _ => False) k (isX · c)) : isX (bnd k w (lp t f (good.map h ++ d :: rest) ρ)) c := lp_bad (P := (isX · c)) good d rest I h0 hg hb
theorem lp_bade {t : Gx} {f : Sx} {h : β → D} {k : Fl → Out α} {w : Wit k} {o : Out α} {ρ : Rho} (good : List β) (d : D) (rest : List D) (I : Rho → Prop) (h0 : I ρ)
    (hg : ∀ x ρ, x ∈ good → I ρ → Turn t f (h x) ρ I k (· = o)) (hb : ∀ ρ, I ρ → Turn t f d ρ (fun _ => False) k (· = o)) : bnd k w (lp t f (good.map h ++ d :: rest) ρ) = o := lp_bad (P := (· = o)) good d rest I h0 hg hb
/-! comprehensions -/
def LV (vs : List Nat) (ρ0 : Rho) (g : D) : Out (D × Rho) → Prop
  | .ok (v, ρ3) => v = g ∧ wipeE ρ3 vs = ρ0
  | _ => False
def LT (l vs : List Nat) (fe : Ex) (ρ0 : Rho) (c : Bool) (g : D) : Out (Bool × Rho) → Prop
  | .ok (b, ρ2) => b = c ∧ (if b = true then LV vs ρ0 g (eF l fe ρ2) else wipeE ρ2 vs = ρ0)
  | _ => False
def LTurn (l vs : List Nat) (ft : Gx) (tt : Tx) (fe : Ex) (d : D) (ρ : Rho) (c : Bool) (g : D) : Prop := LT l vs fe ρ c g (bnd tt () (liftO (ft d ρ)))
section
variable {l vs : List Nat} {fe : Ex} {ρ0 ρ : Rho} {c b : Bool} {g v : D}
@[simp] theorem x_LV : LV vs ρ0 g (.ok (v, ρ)) = (v = g ∧ wipeE ρ vs = ρ0) := (rfl)
@[simp] theorem x_LT : LT l vs fe ρ0 c g (.ok (b, ρ)) = (b = c ∧ (if b = true then LV vs ρ0 g (eF l fe ρ) else wipeE ρ vs = ρ0)) := (rfl)
@[simp] theorem x_LTurn (ft : Gx) (tt : Tx) (d : D) : LTurn l vs ft tt fe d ρ c g = LT l vs fe ρ c g (bnd tt () (liftO (ft d ρ))) := (rfl)
end
theorem lc_go {l vs : List Nat} {ft : Gx} {tt : Tx} {fe : Ex} {h : β → D} {ρ : Rho} (c : β → Bool) (g : β → D) : ∀ (xs : List β) (acc : List D), acc.length + xs.length ≤ 16777216 → (∀ x, x ∈ xs → LTurn l vs ft tt fe (h x) ρ (c x) (g x)) →
    lcLp l vs ft tt fe (xs.map h) ρ acc = .ok (acc ++ (xs.filter c).map g, ρ) := fun xs acc hl hs => by
  refine lc_eqM c g xs acc hl fun x hx => ?_
  have s := hs x hx
  unfold LTurn at s
  cases e1 : ft (h x) ρ with
  | none => rw [e1] at s; exact s.elim
  | some ρ1 =>
    rw [e1] at s
    have s : LT l vs fe ρ (c x) (g x) (tt ρ1) := s
    cases e2 : tt ρ1 with
    | stuck => rw [e2] at s; exact s.elim
    | exc c' ρ' => rw [e2] at s; exact s.elim
    | ok p =>
      obtain ⟨b, ρ2⟩ := p
      rw [e2] at s
      obtain ⟨hb, s⟩ := s
      subst hb
      refine ⟨ρ1, ρ2, rfl, e2, fun hc => ?_, fun hc => ?_⟩
      · rw [if_pos hc] at s
        cases e3 : eF l fe ρ2 with
        | stuck => rw [e3] at s; exact s.elim
        | exc c' ρ' => rw [e3] at s; exact s.elim
        | ok p =>
          obtain ⟨v, ρ3⟩ := p
          rw [e3] at s
          obtain ⟨s1, s2⟩ := s
          subst s1
          exact ⟨ρ3, rfl, s2⟩
      · rw [hc] at s
        exact s
theorem lc_P {l vs : List Nat} {ft : Gx} {tt : Tx} {fe : Ex} {h : β → D} {k : List D × Rho → Out α} {w : Wit k} {P : Out α → Prop} {ds : List D} {ρ : Rho} (xs : List β) (c : β → Bool) (g : β → D) (hd : ds = xs.map h) (hl : xs.length ≤ 16777216)
    (hs : ∀ x, x ∈ xs → LTurn l vs ft tt fe (h x) ρ (c x) (g x)) (he : P (k ((xs.filter c).map g, ρ))) : P (bnd k w (nox (lcLp l vs ft tt fe ds ρ []))) := by
  subst hd
  rw [lc_go c g xs [] (by simpa using hl) hs]
  exact he
theorem lc_b {l vs : List Nat} {ft : Gx} {tt : Tx} {fe : Ex} {h : β → D} {k : List D × Rho → Out α} {w : Wit k} {o : Out α} {ds : List D} {ρ : Rho} (xs : List β) (c : β → Bool) (g : β → D) (hd : ds = xs.map h) (hl : xs.length ≤ 16777216)
    (hs : ∀ x, x ∈ xs → LTurn l vs ft tt fe (h x) ρ (c x) (g x)) (he : k ((xs.filter c).map g, ρ) = o) : bnd k w (nox (lcLp l vs ft tt fe ds ρ [])) = o := lc_P (P := (· = o)) xs c g hd hl hs he
theorem lm_P {l vs : List Nat} {ft : Gx} {fe : Ex} {h : β → D} {k : List D × Rho → Out α} {w : Wit k} {P : Out α → Prop} {ds : List D} {ρ : Rho} (xs : List β) (g : β → D) (hd : ds = xs.map h) (hl : xs.length ≤ 16777216)
    (hs : ∀ x, x ∈ xs → LTurn l vs ft tsNo fe (h x) ρ true (g x)) (he : P (k (xs.map g, ρ))) : P (bnd k w (nox (lcLp l vs ft tsNo fe ds ρ []))) := by
  refine lc_P xs (fun _ => true) g hd hl hs ?_
  rw [List.filter_eq_self.mpr (fun _ _ => rfl)]
  exact he
theorem lm_b {l vs : List Nat} {ft : Gx} {fe : Ex} {h : β → D} {k : List D × Rho → Out α} {w : Wit k} {o : Out α} {ds : List D} {ρ : Rho} (xs : List β) (g : β → D) (hd : ds = xs.map h) (hl : xs.length ≤ 16777216)
    (hs : ∀ x, x ∈ xs → LTurn l vs ft tsNo fe (h x) ρ true (g x)) (he : k (xs.map g, ρ) = o) : bnd k w (nox (lcLp l vs ft tsNo fe ds ρ [])) = o := lm_P (P := (· = o)) xs g hd hl hs he
/-! within a turn of another loop -/
section
variable {J' : Rho → Prop} {k' : Fl → Out α} {P' : Out α → Prop}
theorem lp_a {t : Gx} {f : Sx} {h : β → D} {k : Fl → Out Fl} {w : Wit k} {ds : List D} {ρ : Rho} (xs : List β) (J : Nat → Rho → Prop) (hd : ds = xs.map h) (h0 : J 0 ρ)
    (hs : ∀ i x ρ, xs[i]? = some x → J i ρ → Turn t f (h x) ρ (J (i + 1)) k (Aft J' k' P')) (he : ∀ ρ, J xs.length ρ → Aft J' k' P' (k (.next ρ))) : Aft J' k' P' (bnd k w (lp t f ds ρ)) := lp_P (P := Aft J' k' P') xs J hd h0 hs he
theorem rg_a {t : Gx} {f : Sx} {k : Fl → Out Fl} {w : Wit k} {lo : Int} {n : Nat} {ρ : Rho} (J : Nat → Rho → Prop) (h0 : J 0 ρ)
    (hs : ∀ i ρ, i < n → J i ρ → Turn t f (.int (lo + (i : Nat))) ρ (J (i + 1)) k (Aft J' k' P')) (he : ∀ ρ, J n ρ → Aft J' k' P' (k (.next ρ))) : Aft J' k' P' (bnd k w (lp t f (rgD lo n) ρ)) := rg_P (P := Aft J' k' P') J h0 hs he
theorem en_a {t : Gx} {f : Sx} {h : β → D} {k : Fl → Out Fl} {w : Wit k} {ds : List D} {ρ : Rho} (xs : List β) (J : Nat → Rho → Prop) (hd : ds = xs.map h) (h0 : J 0 ρ)
    (hs : ∀ i x ρ, xs[i]? = some x → J i ρ → Turn t f (.tup [.int (i : Nat), h x]) ρ (J (i + 1)) k (Aft J' k' P')) (he : ∀ ρ, J xs.length ρ → Aft J' k' P' (k (.next ρ))) : Aft J' k' P' (bnd k w (lp t f (enD 0 ds) ρ)) := en_P (P := Aft J' k' P') xs J hd h0 hs he
theorem lc_a {l vs : List Nat} {ft : Gx} {tt : Tx} {fe : Ex} {h : β → D} {k : List D × Rho → Out Fl} {w : Wit k} {ds : List D} {ρ : Rho} (xs : List β) (c : β → Bool) (g : β → D) (hd : ds = xs.map h) (hl : xs.length ≤ 16777216)
    (hs : ∀ x, x ∈ xs → LTurn l vs ft tt fe (h x) ρ (c x) (g x)) (he : Aft J' k' P' (k ((xs.filter c).map g, ρ))) : Aft J' k' P' (bnd k w (nox (lcLp l vs ft tt fe ds ρ []))) := lc_P (P := Aft J' k' P') xs c g hd hl hs he
theorem lm_a {l vs : List Nat} {ft : Gx} {fe : Ex} {h : β → D} {k : List D × Rho → Out Fl} {w : Wit k} {ds : List D} {ρ : Rho} (xs : List β) (g : β → D) (hd : ds = xs.map h) (hl : xs.length ≤ 16777216)
    (hs : ∀ x, x ∈ xs → LTurn l vs ft tsNo fe (h x) ρ true (g x)) (he : Aft J' k' P' (k (xs.map g, ρ))) : Aft J' k' P' (bnd k w (nox (lcLp l vs ft tsNo fe ds ρ []))) := lm_P (P := Aft J' k' P') xs g hd hl hs he
end
/-- the reckoning ends well, in what has Q -/
def Ev (r : Out α) (Q : α → Prop) : Prop := ∃ a, r = .ok a ∧ Q a
@[simp] theorem x_ev (a : α) (Q : α → Prop) : Ev (.ok a) Q = Q a := by
  refine propext ⟨fun ⟨b, e, q⟩ => ?_, fun q => ⟨a, rfl, q⟩⟩
  cases e; exact q
@[simp] theorem ev_lp {Q : Fl → Prop} (t : Gx) (f : Sx) (ds : List D) (ρ : Rho) : Ev (lp t f ds ρ) Q = Ev (bnd (fun a => .ok a) () (lp t f ds ρ)) Q := by
  cases lp t f ds ρ <;> rfl
/-! .. in a goal Ev -/
section
variable {γ : Type} {Q : α → Prop}
theorem lp_v {t : Gx} {f : Sx} {h : β → D} {k : Fl → Out α} {w : Wit k} {ds : List D} {ρ : Rho} (xs : List β) (J : Nat → Rho → Prop) (hd : ds = xs.map h) (h0 : J 0 ρ)
    (hs : ∀ i x ρ, xs[i]? = some x → J i ρ → Turn t f (h x) ρ (J (i + 1)) k (Ev · Q)) (he : ∀ ρ, J xs.length ρ → Ev (k (.next ρ)) Q) : Ev (bnd k w (lp t f ds ρ)) Q := lp_P (P := (Ev · Q)) xs J hd h0 hs he
theorem rg_v {t : Gx} {f : Sx} {k : Fl → Out α} {w : Wit k} {lo : Int} {n : Nat} {ρ : Rho} (J : Nat → Rho → Prop) (h0 : J 0 ρ)
    (hs : ∀ i ρ, i < n → J i ρ → Turn t f (.int (lo + (i : Nat))) ρ (J (i + 1)) k (Ev · Q)) (he : ∀ ρ, J n ρ → Ev (k (.next ρ)) Q) : Ev (bnd k w (lp t f (rgD lo n) ρ)) Q := rg_P (P := (Ev · Q)) J h0 hs he
theorem en_v {t : Gx} {f : Sx} {h : β → D} {k : Fl → Out α} {w : Wit k} {ds : List D} {ρ : Rho} (xs : List β) (J : Nat → Rho → Prop) (hd : ds = xs.map h) (h0 : J 0 ρ)
    (hs : ∀ i x ρ, xs[i]? = some x → J i ρ → Turn t f (.tup [.int (i : Nat), h x]) ρ (J (i + 1)) k (Ev · Q)) (he : ∀ ρ, J xs.length ρ → Ev (k (.next ρ)) Q) : Ev (bnd k w (lp t f (enD 0 ds) ρ)) Q := en_P (P := (Ev · Q)) xs J hd h0 hs he
theorem lc_v {l vs : List Nat} {ft : Gx} {tt : Tx} {fe : Ex} {h : β → D} {k : List D × Rho → Out α} {w : Wit k} {ds : List D} {ρ : Rho} (xs : List β) (c : β → Bool) (g : β → D) (hd : ds = xs.map h) (hl : xs.length ≤ 16777216)
    (hs : ∀ x, x ∈ xs → LTurn l vs ft tt fe (h x) ρ (c x) (g x)) (he : Ev (k ((xs.filter c).map g, ρ)) Q) : Ev (bnd k w (nox (lcLp l vs ft tt fe ds ρ []))) Q := lc_P (P := (Ev · Q)) xs c g hd hl hs he
theorem lm_v {l vs : List Nat} {ft : Gx} {fe : Ex} {h : β → D} {k : List D × Rho → Out α} {w : Wit k} {ds : List D} {ρ : Rho} (xs : List β) (g : β → D) (hd : ds = xs.map h) (hl : xs.length ≤ 16777216)
    (hs : ∀ x, x ∈ xs → LTurn l vs ft tsNo fe (h x) ρ true (g x)) (he : Ev (k (xs.map g, ρ)) Q) : Ev (bnd k w (nox (lcLp l vs ft tsNo fe ds ρ []))) Q := lm_P (P := (Ev · Q)) xs g hd hl hs he
end
end
end PL

/-! in-out calls, and more equations -/
namespace PL
open PySem PySem.Spec PyProof.Rows L2
section
variable {ρ : Rho} {l : List Nat}
@[simp] theorem x_fzX0 (i : Nat) (ss : List S) : fzX l 0 (.b i :: ss) ρ = (fzL l ss ρ >>= fun q => .ok (.non :: q.1, i, q.2)) := (rfl)
@[simp] theorem x_fzXs (j : Nat) (s : S) (ss : List S) : fzX l (j + 1) (s :: ss) ρ = (fz l s ρ >>= fun p => fzX l j ss p.2 >>= fun q => .ok (p.1 :: q.1, q.2.1, q.2.2)) := fzX_s l j s ss ρ
@[simp] theorem x_call1 (n j0 : Nat) (F : Fn1) (fa : Ax) : eCall1 l n j0 F fa ρ = (fa ρ >>= fun p => fzX l j0 p.1 p.2 >>= fun q => liftO (ownD q.2.2 q.2.1) >>= fun d => if q.1.length = n then F (q.1.set j0 d) >>= fun r => .ok (r.1, putO q.2.2 q.2.1 r.2) else .stuck) := (rfl)
@[simp] theorem x_noX1 (r : S × D) : noX (.ok r) = .ok r := (rfl)
@[simp] theorem x_run1 (j0 m : Nat) (f : Sx) (ds : List D) : run1 j0 m f ds = (f (rho1 j0 ds ++ List.replicate m none) >>= end1 j0) := (rfl)
@[simp] theorem x_rho1a (ds : List D) (d : D) : rho1 0 (d :: ds) = some (.o d) :: ds.map fun d => some (.v d) := (rfl)
@[simp] theorem x_rho1b (j : Nat) (ds : List D) (d : D) : rho1 (j + 1) (d :: ds) = some (.v d) :: rho1 j ds := (rfl)
@[simp] theorem x_end1r (j0 : Nat) (s : S) (ρ' : Rho) : end1 j0 (.ret s ρ') = (liftO (ownD ρ' j0) >>= fun d => .ok (s, d)) := (rfl)
@[simp] theorem x_end1n (j0 : Nat) (ρ' : Rho) : end1 j0 (.next ρ') = (liftO (ownD ρ' j0) >>= fun d => .ok (.v .non, d)) := (rfl)
@[simp] theorem x_setL (ls : List D) (i : Int) (v : D) : dSet (.lst ls) (.int i) v = (ixN ls.length i).map fun j => .lst (ls.set j v) := (rfl)
@[simp] theorem x_isubI (i j : Int) : iSub (.int i) (.int j) = some (.v (.int (i - j))) := (rfl)
@[simp] theorem x_iaddI (i j : Int) : iAdd (.int i) (.int j) = some (.v (.int (i + j))) := (rfl)
@[simp] theorem x_ixSc (ns : List Int) (i : Int) : dIx (.scr ns) (.int i) = (L2.atI ns i).map fun n => .v (.int n) := (rfl)
@[simp] theorem x_slZ (z : Str) (lo hi : Option Int) : dSl (.str z) lo hi = if z.length ≤ 16777216 then some (.v (.str (cutS z lo hi))) else none := (rfl)
@[simp] theorem x_lstS (ns : List Int) : dLst1 [.scr ns] = some (.o (.lst (ns.map .int))) := (rfl)
@[simp] theorem x_addL (a b : List D) : dAdd (.lst a) (.lst b) = if a.length + b.length ≤ 16777216 then some (.o (.lst (a ++ b))) else none := (rfl)
@[simp] theorem x_addZ (a b : Str) : dAdd (.str a) (.str b) = if a.length + b.length ≤ 16777216 then some (.v (.str (a ++ b))) else none := (rfl)
@[simp] theorem x_pop (ls : List D) (d : D) : mPop (ls ++ [d]) [] = some (d, ls) := by
  unfold mPop
  simp
end
theorem x_eq_bl (i j : Bool) : eqD (.bl i) (.bl j) = decide (i = j) := by
  cases i <;> cases j <;> rfl
@[simp] theorem x_dEq_bl (i j : Bool) : dEq (.bl i) (.bl j) = some (decide (i = j)) := by
  unfold dEq
  rw [if_pos (show flatX (.bl i) (.bl j) = true from rfl), x_eq_bl]
@[simp] theorem x_ltZ (i j : Str) : dLt (.str i) (.str j) = some (decide (i.cps.toList < j.cps.toList)) := (rfl)
@[simp] theorem x_leZ (i j : Str) : dLe (.str i) (.str j) = some (!decide (j.cps.toList < i.cps.toList)) := (rfl)
@[simp] theorem x_gtZ (i j : Str) : dGt (.str i) (.str j) = some (decide (j.cps.toList < i.cps.toList)) := (rfl)
@[simp] theorem x_geZ (i j : Str) : dGe (.str i) (.str j) = some (!decide (i.cps.toList < j.cps.toList)) := (rfl)
/-- bounds that omega shows: simp (disch := omega) [ite_line, ite_line1] -/
theorem ite_line {α : Type} {n : Nat} {a b : α} (h : n ≤ 16777216) : (if n ≤ 16777216 then a else b) = a := if_pos h
theorem ite_line1 {α : Type} {n : Nat} {a b : α} (h : n < 16777216) : (if n < 16777216 then a else b) = a := if_pos h
theorem int1_line {i : Int} (h : -4611686018427387904 ≤ i ∧ i < 4611686018427387904) : PL.int1 [.int i] = some i := x_int1' i h
/-! the digits of places: ixN at small numbers -/
theorem ixN_nat {n k : Nat} (h : k < n) : ixN n (k : Int) = some k := by
  unfold ixN
  rw [if_pos (by omega), if_pos (by omega)]
  rfl
theorem ixN_i {n : Nat} {i : Int} (h0 : 0 ≤ i) (h : i < n) : ixN n i = some i.toNat := by
  have e : ((i.toNat : Nat) : Int) = i := by omega
  have := ixN_nat (n := n) (k := i.toNat) (by omega)
  rwa [e] at this
theorem atI_i {α : Type} {xs : List α} {i : Int} (h0 : 0 ≤ i) (h : i.toNat < xs.length) : L2.atI xs i = some xs[i.toNat] := by
  rw [atI_pos h0, List.getElem?_eq_getElem h]
@[simp] theorem atI_0 {α : Type} (x : α) (xs : List α) : L2.atI (x :: xs) 0 = some x := atI_ofNat _ 0 _ rfl
@[simp] theorem atI_1 {α : Type} (x y : α) (xs : List α) : L2.atI (x :: y :: xs) 1 = some y := atI_ofNat _ 1 _ rfl
@[simp] theorem atI_2 {α : Type} (x y z : α) (xs : List α) : L2.atI (x :: y :: z :: xs) 2 = some z := atI_ofNat _ 2 _ rfl
@[simp] theorem atI_3 {α : Type} (x y z u : α) (xs : List α) : L2.atI (x :: y :: z :: u :: xs) 3 = some u := atI_ofNat _ 3 _ rfl
@[simp] theorem atI_4 {α : Type} (x y z u v : α) (xs : List α) : L2.atI (x :: y :: z :: u :: v :: xs) 4 = some v := atI_ofNat _ 4 _ rfl
theorem atI_map' {α β : Type} (f : α → β) {xs : List α} {i : Int} {x : α} (h : L2.atI xs i = some x) : L2.atI (xs.map f) i = some (f x) := by
  rw [atI_map, h]; rfl
/-- an index within the bounds finds something -/
theorem atI_ex {α : Type} {xs : List α} {i : Int} (h0 : 0 ≤ i) (h : i < xs.length) : ∃ x, L2.atI xs i = some x ∧ x ∈ xs := by
  have h' : i.toNat < xs.length := by omega
  exact ⟨xs[i.toNat], atI_i h0 h', List.getElem_mem h'⟩
/-! slices -/
theorem cutG_to {α : Type} {xs : List α} {k : Int} (h0 : 0 ≤ k) : cutG xs none (some k) = xs.take k.toNat := by
  unfold cutG
  simp [HT.sIx]
  rw [if_neg (by omega)]
  omega
theorem cutG_from {α : Type} {xs : List α} {k : Int} (h0 : 0 ≤ k) : cutG xs (some k) none = xs.drop k.toNat := by
  unfold cutG
  simp [HT.sIx]
  rw [if_neg (by omega)]
  by_cases h : k.toNat ≤ xs.length
  · rw [show min k.toNat xs.length = k.toNat by omega, List.take_of_length_le (by rw [List.length_drop]; omega)]
  · rw [List.drop_eq_nil_of_le (show xs.length ≤ min k.toNat xs.length by omega), List.drop_eq_nil_of_le (show xs.length ≤ k.toNat by omega)]
    simp
end PL

/-! in-out calls of an object just made: f(g(..), constants) -/
namespace PL
open PySem PySem.Spec PyProof.Rows L2
/-- whole numbers as further arguments -/
def ROk (g : Cf) (es : List Expr) (ds : List D) : Prop := ∀ X : Cx, At g X → ∃ vs : List V, (∀ (K : PySem.W.Frag) (H : Hp), ImmL K H ds vs) ∧ PA X es (fun σ H Q => Q vs H)
def eCallT (n : Nat) (F : Fn1) (fe : Ex) (ds : List D) : Ex := fun ρ => fe ρ >>= fun p => match p.1 with
  | .o d => if ds.length + 1 = n then F (d :: ds) >>= fun r => .ok (r.1, p.2) else .stuck
  | _ => .stuck
@[simp] theorem x_callT (n : Nat) (F : Fn1) (fe : Ex) (ds : List D) (ρ : Rho) : eCallT n F fe ds ρ = (fe ρ >>= fun p => match p.1 with
  | .o d => if ds.length + 1 = n then F (d :: ds) >>= fun r => .ok (r.1, p.2) else .stuck
  | _ => .stuck) := (rfl)
section
variable {g : Cf} {e : Expr} {es : List Expr} {pos : Pos}
theorem r_nil : ROk g [] [] := fun X A => ⟨[], fun _ _ => rfl, PA.imp pa_nil fun σ H Q q => q⟩
theorem r_int {i : Int} {j : Nat} {ds : List D} (h : ROk g es ds) (hs : ∀ env, starEach (.Constant (.int i) j pos :: es) env = (false, eval (.Constant (.int i) j pos) env) :: starEach es env := by intro _; rfl) : ROk g (.Constant (.int i) j pos :: es) (.int i :: ds) := fun X A => by
  obtain ⟨vs, h1, h2⟩ := h X A
  exact ⟨.int i :: vs, fun K H => ⟨_, _, rfl, rfl, h1 K H⟩, PA.imp (pa_cons pe_int h2 (hs _)) fun σ H Q q => q⟩
theorem e_callT {x : Str} {p : Pos} {n : Nat} {F : Fn1} {fe : Ex} {ds : List D} (hc : Cal1 g x n 0 F) (he : EOk g e fe) (hr : ROk g es ds) (hg : Glo g x := by rfl) (hdb : (x == ("__debug__" : Str)) = false := by decide)
    (hs : ∀ env, starEach (e :: es) env = (false, eval e env) :: starEach es env := by intro _; rfl) (hpl : ∀ env, (backTo pos (starEach es env)).any (·.1) = false := by intro _; rfl) : EOk g (.Call (.Name x p) (e :: es) [] pos) (eCallT n (fun ds => noX (F ds)) fe ds) := fun X W A tk => by
  obtain ⟨f, fd, ps, h1, h2, h3, h4⟩ := hc.ex
  have h1' : FnOk X.prog X.w X.K X.mg X.base (L2.CX X.prog X.w) g.k f fd ps (sp1 X.K n 0 F) := by rw [A.prog, A.w, A.K, A.mg, A.base]; exact h1
  obtain ⟨vs, v1, v2⟩ := hr X A
  refine PE.imp (pe_callS h1' A.room (hg.gl A) (by rw [A.mg]; exact h2) (by rw [A.K]; exact h3) (by rw [A.K]; exact h4) (fun σ => passAt tk σ) (pa_cons (he X W A tk) v2 (hs _)) hdb (hs _) (hpl _)) fun σ H Q ⟨ρ, R, q⟩ => ⟨ρ, R, ?_⟩
  unfold eCallT at q
  cases hfe : fe ρ with
  | stuck => rw [hfe] at q; exact q.elim
  | exc c ρ' => rw [hfe] at q; exact q
  | ok p =>
    obtain ⟨z, ρ'⟩ := p
    rw [hfe, bind_ok] at q
    intro H1 E1 R1 y sr
    cases z with
    | v d => exact q.elim
    | b i => exact q.elim
    | o d =>
      simp only at q
      split at q
      case isFalse => exact q.elim
      rename_i hlen
      obtain ⟨a, e1, ow, no, h0⟩ := sr
      subst e1
      have hl : vs.length = ds.length := (v1 X.K H1).len
      refine ⟨d :: ds, a, d, by rw [List.length_cons]; exact hlen, by rw [List.length_cons, hl]; exact hlen, rfl, rfl, ow, fun k d' hk hd => ?_, ?_⟩
      · cases k with
        | zero => exact (hk rfl).elim
        | succ k =>
          obtain ⟨x, x1, x2⟩ := (v1 X.K H1).get' (i := k) (d := d') (by simpa using hd)
          exact ⟨x, by simpa using x1, x2⟩
      · cases hF : F (d :: ds) with
        | stuck => simp only [hF, noX] at q; exact q.elim
        | exc c ρ2 => simp only [hF, noX] at q; exact q.elim
        | ok r =>
          obtain ⟨s, d2⟩ := r
          simp only [hF, noX, bind_ok] at q
          intro H' y E2 keep o2 rs
          have R2 := R1.but E2 keep no h0
          refine q H' (E1.trans E2) R2 y ?_
          cases s with
          | v d' => exact rs
          | o d' =>
            obtain ⟨b, e2, h5, h6⟩ := rs
            exact ⟨b, e2, h6, not_own R1 h5, not_old R1 h5⟩
          | b j => exact rs.elim
/-! a comprehension's list to a cell, or from another line -/
theorem sw_cell {elt : Expr} {gs : List Comprehension} {scope : Scope} {pos py : Pos} {y : Str} {l : Nat} {env : Env} (hy : env.scope.names.lookup y = some .cell) : swapsWith (.ListComp elt gs scope pos) (some (.Name y py)) l env = pure false := by
  have ky : env.kindOf y = some .cell := hy
  unfold swapsWith
  simp only [ky]
  cases env.blockKind <;> rfl
theorem sw_line {elt : Expr} {gs : List Comprehension} {scope : Scope} {pos py : Pos} {y : Str} {l : Nat} {env : Env} (hl : (py.line == pos.line) = false) : swapsWith (.ListComp elt gs scope pos) (some (.Name y py)) l env = pure false := by
  unfold swapsWith
  simp only [Expr.pos, hl]
  cases env.blockKind <;> cases env.kindOf y <;> simp
/-! a, b = x, y -/
def sPar (l : List Nat) (i j : Nat) (fa : Ax) : Sx := fun ρ => aF l fa ρ >>= fun p => match p.1 with
  | [d, e] => if i ∈ l ∨ j ∈ l then .stuck else .ok (.next ((p.2.set i (some (.v d))).set j (some (.v e))))
  | _ => .stuck
@[simp] theorem x_sPar (l : List Nat) (i j : Nat) (fa : Ax) (ρ : Rho) : sPar l i j fa ρ = (aF l fa ρ >>= fun p => match p.1 with
  | [d, e] => if i ∈ l ∨ j ∈ l then .stuck else .ok (.next ((p.2.set i (some (.v d))).set j (some (.v e))))
  | _ => .stuck) := (rfl)
theorem s_par {i j : Nat} {x y : Str} {a b : Expr} {fa : Ax} {px py pt : Pos} {kt k2 pt2} (sx : Slot g x i) (sy : Slot g y j) (hij : i ≠ j) (hk : g.sc.kind = .function) (hx : g.sc.names.lookup x = some .local) (hy : g.sc.names.lookup y = some .local) (ha : AOk g [a, b] fa)
    (hw : ∀ env : Env, env.blockKind = .function → env.kindOf x = some .local → env.kindOf y = some .local → swappedStores [.Tuple [.Name x px, .Name y py] kt pt] (.Tuple [a, b] k2 pt2) env = pure (some [x, y]) := by
      intro env hb hx hy; unfold swappedStores; simp only [List.filterMap, hb, hx, hy]; rfl)
    (hs : ∀ env, swapsWithSole [.Tuple [.Name x px, .Name y py] kt pt] (.Tuple [a, b] k2 pt2) pos.line env = pure false := by intro _; rfl) :
    SOk g (.Assign [.Tuple [.Name x px, .Name y py] kt pt] (.Tuple [a, b] k2 pt2) pos) (sPar g.ios i j fa) := fun X W A tk => by
  have kx : X.env.kindOf x = some .local := by show X.env.scope.names.lookup x = _; rw [A.sc]; exact hx
  have ky : X.env.kindOf y = some .local := by show X.env.scope.names.lookup y = _; rw [A.sc]; exact hy
  have kb : X.env.blockKind = .function := by unfold Env.blockKind; rw [A.sc, hk]; rfl
  refine PS.imp (ps_par (i := i) (j := j) A.calm (by rw [A.N]; exact sx.nd) (by rw [A.N]; exact sx.ix) (by rw [A.N]; exact sy.ix) hij kx ky (ha.f A.toAt tk) (hw _ kb kx ky) (hs _)) fun D σ H ⟨ρ, R, q⟩ => ⟨ρ, R, Ps_step q fun p _ q1 H1 E1 R1 vs im => ?_⟩
  obtain ⟨ds, ρ1⟩ := p
  match ds, im, q1 with
  | [d, e], im, q1 =>
    obtain ⟨v, r, e1, i1, w, r2, e2, i2, e3⟩ := im
    subst e1
    subst e2
    cases (show _ = _ from e3)
    refine ⟨v, w, rfl, ?_⟩
    have q1 : PsS X.K g H W D (if i ∈ g.ios ∨ j ∈ g.ios then .stuck else .ok (.next ((ρ1.set i (some (.v d))).set j (some (.v e))))) := q1
    split at q1
    · exact q1.elim
    · rename_i hio
      have R1 : ER X.K g ρ1 σ H1 := R1
      have n1 : i ∉ g.ios := fun z => hio (.inl z)
      have n2 : j ∉ g.ios := fun z => hio (.inr z)
      have R2 := R1.set (s := .v d) (x := v) i1 n1
      have R3 := R2.set (s := .v e) (x := w) i2 n2
      exact q1 _ H1 E1 R3
  | [], _, q1 => exact q1.elim
  | [_], _, q1 => exact q1.elim
  | _ :: _ :: _ :: _, _, q1 => exact q1.elim
end
/-! comprehensions whose turns change the state -/
section
variable {α β : Type}
def LVJ (vs : List Nat) (J : Rho → Prop) (g : D) : Out (D × Rho) → Prop
  | .ok (v, ρ3) => v = g ∧ J (wipeE ρ3 vs)
  | _ => False
def LTJ (l vs : List Nat) (fe : Ex) (J : Rho → Prop) (c : Bool) (g : D) : Out (Bool × Rho) → Prop
  | .ok (b, ρ2) => b = c ∧ (if b = true then LVJ vs J g (eF l fe ρ2) else J (wipeE ρ2 vs))
  | _ => False
section
variable {l vs : List Nat} {fe : Ex} {J : Rho → Prop} {ρ : Rho} {c b : Bool} {g v : D}
@[simp] theorem x_LVJ : LVJ vs J g (.ok (v, ρ)) = (v = g ∧ J (wipeE ρ vs)) := (rfl)
@[simp] theorem x_LTJ : LTJ l vs fe J c g (.ok (b, ρ)) = (b = c ∧ (if b = true then LVJ vs J g (eF l fe ρ) else J (wipeE ρ vs))) := (rfl)
end
theorem lcJ_go {l vs : List Nat} {ft : Gx} {tt : Tx} {fe : Ex} {h : β → D} (all : List β) (J : Nat → Rho → Prop) (c : β → Bool) (g : β → D) (hs : ∀ i x ρ, all[i]? = some x → J i ρ → LTJ l vs fe (J (i + 1)) (c x) (g x) (bnd tt () (liftO (ft (h x) ρ)))) :
    ∀ (xs : List β) (n : Nat) (acc : List D) (ρ : Rho), all.drop n = xs → n + xs.length = all.length → acc.length + xs.length ≤ 16777216 → J n ρ → ∃ ρ', lcLp l vs ft tt fe (xs.map h) ρ acc = .ok (acc ++ (xs.filter c).map g, ρ') ∧ J all.length ρ'
  | [], n, acc, ρ, _, hn, _, hj => ⟨ρ, by simp [lcLp], by rw [← hn]; exact hj⟩
  | x :: xs, n, acc, ρ, e, hn, hl, hj => by
    have hx : all[n]? = some x := by
      have := congrArg (fun l => l[0]?) e
      simpa using this
    have s := hs n x ρ hx hj
    have e' : all.drop (n + 1) = xs := by rw [← List.drop_drop, e]; rfl
    rw [List.length_cons] at hn hl
    have ih := fun acc' ρ' hl' => lcJ_go (l := l) (vs := vs) (ft := ft) (tt := tt) (fe := fe) (h := h) all J c g hs xs (n + 1) acc' ρ' e' (by omega) hl'
    rw [List.map_cons, lcLp]
    cases e1 : ft (h x) ρ with
    | none => rw [e1] at s; exact s.elim
    | some ρ1 =>
      rw [e1] at s
      have s : LTJ l vs fe (J (n + 1)) (c x) (g x) (tt ρ1) := s
      rw [liftO_some, bind_ok]
      cases e2 : tt ρ1 with
      | stuck => rw [e2] at s; exact s.elim
      | exc c' ρ' => rw [e2] at s; exact s.elim
      | ok p =>
        obtain ⟨b, ρ2⟩ := p
        rw [e2] at s
        obtain ⟨hb, s⟩ := s
        rw [bind_ok]
        cases hc : c x with
        | false =>
          rw [hc] at hb
          subst hb
          have s : J (n + 1) (wipeE ρ2 vs) := s
          obtain ⟨ρ', h1, h2⟩ := ih acc (wipeE ρ2 vs) (by omega) s
          refine ⟨ρ', ?_, h2⟩
          rw [if_neg (by simp), h1, List.filter_cons_of_neg (by rw [hc]; simp)]
        | true =>
          rw [hc] at hb
          subst hb
          have s : LVJ vs (J (n + 1)) (g x) (eF l fe ρ2) := s
          cases e3 : eF l fe ρ2 with
          | stuck => rw [e3] at s; exact s.elim
          | exc c' ρ' => rw [e3] at s; exact s.elim
          | ok p =>
            obtain ⟨v, ρ3⟩ := p
            rw [e3] at s
            obtain ⟨s1, s2⟩ := s
            subst s1
            obtain ⟨ρ', h1, h2⟩ := ih (acc ++ [g x]) (wipeE ρ3 vs) (by rw [List.length_append, List.length_singleton]; omega) s2
            refine ⟨ρ', ?_, h2⟩
            rw [if_pos rfl, bind_ok, if_pos (by omega), h1, List.filter_cons_of_pos hc, List.map_cons, List.append_assoc]
            rfl
theorem lcJ_P {l vs : List Nat} {ft : Gx} {tt : Tx} {fe : Ex} {h : β → D} {k : List D × Rho → Out α} {w : Wit k} {P : Out α → Prop} {ds : List D} {ρ : Rho} (xs : List β) (J : Nat → Rho → Prop) (c : β → Bool) (g : β → D) (hd : ds = xs.map h) (hl : xs.length ≤ 16777216) (h0 : J 0 ρ)
    (hs : ∀ i x ρ, xs[i]? = some x → J i ρ → LTJ l vs fe (J (i + 1)) (c x) (g x) (bnd tt () (liftO (ft (h x) ρ)))) (he : ∀ ρ, J xs.length ρ → P (k ((xs.filter c).map g, ρ))) : P (bnd k w (nox (lcLp l vs ft tt fe ds ρ []))) := by
  subst hd
  obtain ⟨ρ', h1, h2⟩ := lcJ_go xs J c g hs xs 0 [] ρ rfl (by omega) (by simpa using hl) h0
  rw [h1]
  exact he ρ' h2
theorem lmJ_P {l vs : List Nat} {ft : Gx} {fe : Ex} {h : β → D} {k : List D × Rho → Out α} {w : Wit k} {P : Out α → Prop} {ds : List D} {ρ : Rho} (xs : List β) (J : Nat → Rho → Prop) (g : β → D) (hd : ds = xs.map h) (hl : xs.length ≤ 16777216) (h0 : J 0 ρ)
    (hs : ∀ i x ρ, xs[i]? = some x → J i ρ → LTJ l vs fe (J (i + 1)) true (g x) (bnd tsNo () (liftO (ft (h x) ρ)))) (he : ∀ ρ, J xs.length ρ → P (k (xs.map g, ρ))) : P (bnd k w (nox (lcLp l vs ft tsNo fe ds ρ []))) := by
  refine lcJ_P xs J (fun _ => true) g hd hl h0 hs fun ρ hj => ?_
  rw [List.filter_eq_self.mpr (fun _ _ => rfl)]
  exact he ρ hj
theorem lcJ_v {Q : α → Prop} {l vs : List Nat} {ft : Gx} {tt : Tx} {fe : Ex} {h : β → D} {k : List D × Rho → Out α} {w : Wit k} {ds : List D} {ρ : Rho} (xs : List β) (J : Nat → Rho → Prop) (c : β → Bool) (g : β → D) (hd : ds = xs.map h) (hl : xs.length ≤ 16777216) (h0 : J 0 ρ)
    (hs : ∀ i x ρ, xs[i]? = some x → J i ρ → LTJ l vs fe (J (i + 1)) (c x) (g x) (bnd tt () (liftO (ft (h x) ρ)))) (he : ∀ ρ, J xs.length ρ → Ev (k ((xs.filter c).map g, ρ)) Q) : Ev (bnd k w (nox (lcLp l vs ft tt fe ds ρ []))) Q := lcJ_P (P := (Ev · Q)) xs J c g hd hl h0 hs he
theorem lmJ_v {Q : α → Prop} {l vs : List Nat} {ft : Gx} {fe : Ex} {h : β → D} {k : List D × Rho → Out α} {w : Wit k} {ds : List D} {ρ : Rho} (xs : List β) (J : Nat → Rho → Prop) (g : β → D) (hd : ds = xs.map h) (hl : xs.length ≤ 16777216) (h0 : J 0 ρ)
    (hs : ∀ i x ρ, xs[i]? = some x → J i ρ → LTJ l vs fe (J (i + 1)) true (g x) (bnd tsNo () (liftO (ft (h x) ρ)))) (he : ∀ ρ, J xs.length ρ → Ev (k (xs.map g, ρ)) Q) : Ev (bnd k w (nox (lcLp l vs ft tsNo fe ds ρ []))) Q := lmJ_P (P := (Ev · Q)) xs J g hd hl h0 hs he
theorem lcJ_b {o : Out α} {l vs : List Nat} {ft : Gx} {tt : Tx} {fe : Ex} {h : β → D} {k : List D × Rho → Out α} {w : Wit k} {ds : List D} {ρ : Rho} (xs : List β) (J : Nat → Rho → Prop) (c : β → Bool) (g : β → D) (hd : ds = xs.map h) (hl : xs.length ≤ 16777216) (h0 : J 0 ρ)
    (hs : ∀ i x ρ, xs[i]? = some x → J i ρ → LTJ l vs fe (J (i + 1)) (c x) (g x) (bnd tt () (liftO (ft (h x) ρ)))) (he : ∀ ρ, J xs.length ρ → k ((xs.filter c).map g, ρ) = o) : bnd k w (nox (lcLp l vs ft tt fe ds ρ [])) = o := lcJ_P (P := (· = o)) xs J c g hd hl h0 hs he
theorem lmJ_b {o : Out α} {l vs : List Nat} {ft : Gx} {fe : Ex} {h : β → D} {k : List D × Rho → Out α} {w : Wit k} {ds : List D} {ρ : Rho} (xs : List β) (J : Nat → Rho → Prop) (g : β → D) (hd : ds = xs.map h) (hl : xs.length ≤ 16777216) (h0 : J 0 ρ)
    (hs : ∀ i x ρ, xs[i]? = some x → J i ρ → LTJ l vs fe (J (i + 1)) true (g x) (bnd tsNo () (liftO (ft (h x) ρ)))) (he : ∀ ρ, J xs.length ρ → k (xs.map g, ρ) = o) : bnd k w (nox (lcLp l vs ft tsNo fe ds ρ [])) = o := lmJ_P (P := (· = o)) xs J g hd hl h0 hs he
end
end PL

/-! dict comprehensions (keys: ints, texts) -/
namespace PL
open PySem PySem.Spec PyProof.Rows L2
def dcLp (l vs : List Nat) (ft : Gx) (tt : Tx) (fk fe : Ex) : List D → Rho → List (D × D) → Out (List (D × D) × Rho)
  | [], ρ, acc => .ok (acc, ρ)
  | d :: ds, ρ, acc => liftO (ft d ρ) >>= fun ρ1 => tt ρ1 >>= fun p =>
      if p.1 = true then eF l fk p.2 >>= fun q => liftO (keyD q.1) >>= fun k => eF l fe q.2 >>= fun r => if acc.length < 16777216 then dcLp l vs ft tt fk fe ds (wipeE r.2 vs) (gPut false acc [k] q.1 r.1) else .stuck
      else dcLp l vs ft tt fk fe ds (wipeE p.2 vs) acc
def eDc (l vs : List Nat) (fi : Ix) (ft : Gx) (tt : Tx) (fk fe : Ex) : Ex := fun ρ => fi ρ >>= fun p => if (∀ i ∈ vs, i ∉ l) then nox (dcLp l vs ft tt fk fe p.1 (wipeE p.2 vs) []) >>= fun q => .ok (.o (.dic false q.1), unwipe vs p.2 q.2) else .stuck
section
variable {J : It} {n : Nat} {G : Hp → Prop} {Y : Nat → Hp → V → Hp → Prop}
theorem dc_it (w : Walk J n G Y) {g : TG} {tt : TT} {tk te : TE} {vs : List Nat} {σ : L2.St} {H1 : Hp} {D : Addr} {Qd : Hp → Prop} (Pv : Nat → Hp → Prop) (h0 : Pv 0 (upd H1 D (.dK []))) (hG : ∀ i H, i ≤ n → Pv i H → G H)
    (hs : ∀ i x H H', i < n → Pv i H → Y i H x H' → g x (wipe σ vs) H' fun σ2 H2 => wipe σ2 vs = wipe σ vs ∧ tt σ2 H2 fun b H3 =>
      if b = true then tk σ2 H3 fun y H4 => te σ2 H4 fun z H5 => ∃ kvs k, y = kV k ∧ H5 D = some (.dK kvs) ∧ kvs.length < sizeLine ∧ Pv (i + 1) (upd H5 D (.dK (putK kvs k z))) else Pv (i + 1) H3) (hd : ∀ H, Pv n H → Qd H) :
    ∃ W : Nat → Nat → Hp → Prop, (∃ m, W 0 m (upd H1 D (.dK []))) ∧ ∀ i m H, W i m H →
      (J.stop i H ∧ Qd H) ∨ (J.go i H ∧ ∃ Nx : Hp → Prop, (∀ H', Nx H' → ∃ m', m' < m ∧ W (i + 1) m' H') ∧ ∀ x H', J.yld i H x H' → g x (wipe σ vs) H' fun σ2 H2 => wipe σ2 vs = wipe σ vs ∧ tt σ2 H2 fun b H3 =>
        if b = true then tk σ2 H3 fun y H4 => te σ2 H4 fun z H5 => ∃ kvs k, y = kV k ∧ H5 D = some (.dK kvs) ∧ kvs.length < sizeLine ∧ Nx (upd H5 D (.dK (putK kvs k z))) else Nx H3) := by
  refine ⟨fun i m H => m = n - i ∧ i ≤ n ∧ Pv i H, ⟨n, by simp, Nat.zero_le _, h0⟩, ?_⟩
  rintro i m H ⟨rfl, hi, p⟩
  have q := hG i H hi p
  by_cases hlt : i < n
  · refine .inr ⟨w.goes i H hlt q, Pv (i + 1), fun H' p' => ⟨n - (i + 1), by omega, rfl, hlt, p'⟩, fun x H' y => hs i x H H' hlt p (w.yields i H x H' hlt q y)⟩
  · have e : i = n := by omega
    subst e
    exact .inl ⟨w.stops H q, hd H p⟩
end
section
variable {g : Cf} {X : Cx} {e a b c tg kx elt iter : Expr} {ifs : List Expr} {pos : Pos} {W : WX} {K : PySem.W.Frag}
/-- the heart of a comprehension's reading -/
theorem read_dc {scope : Scope} {own : List (Str × Nat)} {ts vs : List Nat} {fi : Ix} {ft : Gx} {tt : Tx} {fk fe : Ex} (A : At g X) (hts : ∀ i ∈ ts, i ∈ vs) {σ : L2.St} {H : Hp} {Q : VK} {tgt : TG} {ttt : TT} {ttk tte : TE}
    (hg : ∀ {v σ2 H2 Q} {H0 : Hp}, tGx X.K (g.blk scope H0) ts ft v σ2 H2 Q → tgt v σ2 H2 Q)
    (ht : ∀ {σ2 H2 Q} {H0 : Hp}, tT X.K (g.blk scope H0) tt (fun _ _ _ _ => False) σ2 H2 Q → ttt σ2 H2 Q)
    (hk : ∀ {σ2 H2 Q} {H0 : Hp}, tF X.K (g.blk scope H0) fk (fun _ _ _ _ => False) σ2 H2 Q → ttk σ2 H2 Q)
    (he : ∀ {σ2 H2 Q} {H0 : Hp}, tF X.K (g.blk scope H0) fe (fun _ _ _ _ => False) σ2 H2 Q → tte σ2 H2 Q)
    (t : tE X.K g (eDc g.ios vs fi ft tt fk fe) W σ H Q) : tDc (tI X.K g fi W) tgt ttt ttk tte vs σ H Q := by
  obtain ⟨ρ, R, q⟩ := t
  refine ⟨ρ, R, ?_⟩
  unfold eDc at q
  cases hf : fi ρ with
  | stuck => rw [hf] at q; exact q.elim
  | exc c ρ1 => rw [hf] at q; exact q
  | ok p =>
    obtain ⟨ds, ρ1⟩ := p
    rw [hf] at q
    simp only [bind_ok] at q
    split at q
    case isFalse => exact q.elim
    rename_i hio
    cases hl : nox (dcLp g.ios vs ft tt fk fe ds (wipeE ρ1 vs) []) with
    | stuck => rw [hl] at q; exact q.elim
    | exc c ρ' => exact (nox_noexc hl).elim
    | ok r =>
      rw [hl] at q
      obtain ⟨out, ρ9⟩ := r
      have hl := nox_ok hl
      intro H1 E1 R1 J it D hD
      obtain ⟨G, Y, w, g1, gs, y⟩ := it
      have smD : Same H1 (upd H1 D (.dK [])) := new_tup (K := X.K) hD
      refine dc_it w (fun i H2 => G H2 ∧ Ext H1 H2 ∧ ∃ ρi acc vacc, ER X.K g ρi (wipe σ vs) H2 ∧ ¬ Own ρi (wipe σ vs) D ∧ H2 D = some (.dK vacc) ∧ ImmK X.K H2 acc vacc ∧ dcLp g.ios vs ft tt fk fe (ds.drop i) ρi acc = .ok (out, ρ9)) ?_ (fun i H2 _ h => h.1) (fun i x H2 H3 hi h hy => ?_) (fun H2 h => ?_)
      · refine ⟨gs _ _ (Ext.of_same smD) g1, Ext.of_same smD, wipeE ρ1 vs, [], [], (R1.wipe hio).same smD, fun o => not_own R1 hD (own_wipe o), upd_same, rfl, hl⟩
      · obtain ⟨g2, E2, ρi, acc, vacc, Ri, no, hDi, im, hl2⟩ := h
        obtain ⟨sm, d, hd, imd⟩ := y i H2 x H3 hi g2 hy
        have hdrop : ds.drop i = d :: ds.drop (i + 1) := by
          have e1 := List.drop_eq_getElem_cons hi
          rw [List.getElem?_eq_getElem hi] at hd
          rw [e1, Option.some.inj hd]
        rw [hdrop] at hl2
        obtain ⟨ρ2, h2, hl3⟩ := bind_is hl2
        have h2 := liftO_is h2
        obtain ⟨p, h3, hl4⟩ := bind_is hl3
        have Ri3 := Ri.same sm
        have hD3 : H3 D = some (.dK vacc) := sm _ _ hDi
        have Rb : ER X.K (g.blk scope (hold ρi (wipe σ vs) H3)) ρi (wipe σ vs) H3 := Ri3.rebase _ rfl rfl
        have hH0 : hold ρi (wipe σ vs) H3 D = some (.dK vacc) := by rw [hold_not no]; exact hD3
        have notio : ∀ p ∈ g.io, p.2 ≠ D := fun p hp z => by
          obtain ⟨h5, d', h6⟩ := Ri3.io p hp
          exact no ⟨p.1, d', h6, by rw [h5, z]⟩
        -- what a state of the block tells
        have fin : ∀ {ρ4 : Rho} {σ4 : L2.St} {H4 : Hp}, ER X.K (g.blk scope (hold ρi (wipe σ vs) H3)) ρ4 σ4 H4 → Ext H3 H4 → Chs ts (wipe σ vs) σ4 →
            H4 D = some (.dK vacc) ∧ ER X.K g (wipeE ρ4 vs) (wipe σ vs) H4 ∧ ¬ Own (wipeE ρ4 vs) (wipe σ vs) D ∧ G H4 ∧ Ext H1 H4 := fun {ρ4 σ4 H4} R4 E4 C4 => by
          have k1 : H4 D = some (.dK vacc) := R4.old D _ hH0 notio
          have k2 := (Ri3.back (g' := g.blk scope (hold ρi (wipe σ vs) H3)) rfl rfl R4).wipe hio
          have k3 : wipe σ4 vs = wipe σ vs := by rw [wipe_chs C4 hts, wipe_wipe]
          rw [k3] at k2
          refine ⟨k1, k2, fun o => ?_, gs _ _ ((Ext.of_same sm).trans E4) g2, E2.trans ((Ext.of_same sm).trans E4)⟩
          rw [← k3] at o
          obtain ⟨j, d', o1, o2⟩ := own_wipe o
          rcases R4.new j d' D o1 o2 with z | z
          · have z : hold ρi (wipe σ vs) H3 D = none := z
            rw [hH0] at z; cases z
          · exact notio _ z rfl
        refine hg (H0 := hold ρi (wipe σ vs) H3) ⟨ρi, d, Rb, imd, ?_⟩
        rw [h2]
        intro σ4 H4 C4 E4 R4
        refine ⟨by rw [wipe_chs C4 hts, wipe_wipe], ht (H0 := hold ρi (wipe σ vs) H3) ⟨ρ2, R4, ?_⟩⟩
        rw [h3]
        intro H5 E5 R5
        obtain ⟨b, ρ5⟩ := p
        cases b with
        | false =>
          obtain ⟨k1, k2, k3, k4, k5⟩ := fin R5 (E4.trans E5) C4
          refine iteF ⟨k4, k5, _, acc, vacc, k2, k3, k1, ImmK.ext ((Ext.of_same sm).trans (E4.trans E5)) _ _ im, hl4⟩
        | true =>
          obtain ⟨r, h6, hl5⟩ := bind_is hl4
          obtain ⟨kk, h7, hl6⟩ := bind_is hl5
          have h7 := liftO_is h7
          obtain ⟨r2, h8, hl7⟩ := bind_is hl6
          refine iteT (hk (H0 := hold ρi (wipe σ vs) H3) ⟨ρ5, R5, ?_⟩)
          have h6' : eF (g.blk scope (hold ρi (wipe σ vs) H3)).ios fk ρ5 = .ok r := h6
          rw [h6']
          intro H6 E6 R6 y6 im6
          refine he (H0 := hold ρi (wipe σ vs) H3) ⟨r.2, R6, ?_⟩
          have h8' : eF (g.blk scope (hold ρi (wipe σ vs) H3)).ios fe r.2 = .ok r2 := h8
          rw [h8']
          intro H7 E7 R7 v7 im7
          obtain ⟨k1, k2, k3, k4, k5⟩ := fin R7 (((E4.trans E5).trans E6).trans E7) C4
          split at hl7
          case isFalse => cases hl7
          rename_i hlen
          have im' := ImmK.ext ((Ext.of_same sm).trans (((E4.trans E5).trans E6).trans E7)) _ _ im
          refine ⟨vacc, kk, rd_key (.inl im6) h7, k1, by rw [immK_len im', sizeLine_eq]; exact hlen, ?_⟩
          have x7 : Ext H7 (upd H7 D (.dK (putK vacc kk v7))) := fun b ob hb => by
            by_cases hba : b = D
            · subst hba
              rw [k1] at hb; cases hb
              exact ⟨fun xs e => (by cases e), fun _ _ e => (by cases e)⟩
            · exact ⟨fun _ _ => by rw [upd_ne hba]; exact hb, fun _ _ _ => by rw [upd_ne hba]; exact hb⟩
          have h0D : g.H0 D = none := not_old R1 hD
          refine ⟨gs _ _ x7 k4, k5.trans x7, _, gPut false acc [kk] r.1 r2.1, putK vacc kk v7, k2.but (a := D) x7 (fun b ob hb hh => by rw [upd_ne hb]; exact hh) k3 h0D, k3, upd_same, ImmK.ext x7 _ _ (immK_put h7 im7 im'), hl7⟩
      · obtain ⟨g2, E2, ρi, acc, vacc, Ri, no, hDi, im, hl2⟩ := h
        rw [List.drop_length] at hl2
        cases hl2
        have R9 := R1.unwipe Ri E2 hio
        exact q H2 (E1.trans E2) R9 _ ⟨D, rfl, ⟨vacc, hDi, im⟩, fun o => no (own_unwipe o), not_old R1 hD⟩
theorem e_dc {scope : Scope} {own : List (Str × Nat)} {ts vs : List Nat} {fi : Ix} {ft : Gx} {tt : Tx} {fk fe : Ex} (nd : g.N.Nodup) (ok : blkC g.N g.sc scope own = true) (hvs : own.map (·.2) = vs) (hts : (ts.all fun i => vs.contains i) = true) (hi : IOk g tg iter fi)
    (hg : ∀ H0, GOk (g.blk scope H0) tg ts ft) (ht : ∀ H0, TsOk (g.blk scope H0) ifs tt) (hk : ∀ H0, EOk (g.blk scope H0) kx fk) (he : ∀ H0, EOk (g.blk scope H0) elt fe) (hs : ∀ env x, foldedSetIterable iter env x = pure x := by intro _ _; rfl) :
    EOk g (.DictComp kx elt [⟨tg, iter, ifs, 0⟩] scope pos) (eDc g.ios vs fi ft tt fk fe) := fun X W A tk => by
  subst hvs
  have hts' : ∀ i ∈ ts, i ∈ own.map (·.2) := fun i hi => by simpa using List.all_eq_true.mp hts i hi
  have key := pe_dc (g := fun v σ H Q => ∃ H0, tGx X.K (g.blk scope H0) ts ft v σ H Q) (tt := fun σ H Q => ∃ H0, tT X.K (g.blk scope H0) tt (fun _ _ _ _ => False) σ H Q) (tk := fun σ H Q => ∃ H0, tF X.K (g.blk scope H0) fk (fun _ _ _ _ => False) σ H Q) (tv := fun σ H Q => ∃ H0, tF X.K (g.blk scope H0) fe (fun _ _ _ _ => False) σ H Q)
    (own := own) (scope := scope) (pos := pos) A.calm (by rw [A.N]; exact nd) (hi X W A tk) (by rw [A.N, A.sc]; exact blkOk_by ok)
    (fun s H C cl fp => ⟨fun pins s σ H v u Q I r ⟨H0, q⟩ => ((hg H0) _ A.blk).run pins s σ H v u Q I r q⟩)
    (fun s H C cl fp => ⟨fun pins s σ H Q I ⟨H0, q⟩ => ((ht H0) _ _ A.blk takes0).run pins s σ H Q I q⟩)
    (fun s H C cl fp => ⟨fun pins s σ H Q I ⟨H0, q⟩ => ((hk H0).f A.blk takes0).run pins s σ H Q I q⟩)
    (fun s H C cl fp => ⟨fun pins s σ H Q I ⟨H0, q⟩ => ((he H0).f A.blk takes0).run pins s σ H Q I q⟩) (hs _)
  exact PE.imp key fun σ H Q t => read_dc (scope := scope) (own := own) A hts' (fun {v σ2 H2 Q H0} h => ⟨H0, h⟩) (fun {σ2 H2 Q H0} h => ⟨H0, h⟩) (fun {σ2 H2 Q H0} h => ⟨H0, h⟩) (fun {σ2 H2 Q H0} h => ⟨H0, h⟩) t
theorem swD_true {scope : Scope} {gs : List Comprehension} {py : Pos} {y : Str} {l : Nat} {env : Env} (hk : env.scope.kind = .function) (hy : env.scope.names.lookup y = some .local) (hl : (py.line == pos.line) = true)
    (ha : (scope.names.any fun (n, k) => n == y && (k == .local || k == .cell)) = false) : swapsWith (.DictComp kx elt gs scope pos) (some (.Name y py)) l env = pure true := by
  have ky : env.kindOf y = some .local := hy
  have hb : env.blockKind = .function := by unfold Env.blockKind; rw [hk]; rfl
  unfold swapsWith
  simp only [hb, ky, ha, Expr.pos, hl]
  rfl
theorem swD_cell {scope : Scope} {gs : List Comprehension} {py : Pos} {y : Str} {l : Nat} {env : Env} (hy : env.scope.names.lookup y = some .cell) : swapsWith (.DictComp kx elt gs scope pos) (some (.Name y py)) l env = pure false := by
  have ky : env.kindOf y = some .cell := hy
  unfold swapsWith
  simp only [ky]
  cases env.blockKind <;> rfl
theorem swD_line {scope : Scope} {gs : List Comprehension} {py : Pos} {y : Str} {l : Nat} {env : Env} (hl : (py.line == pos.line) = false) : swapsWith (.DictComp kx elt gs scope pos) (some (.Name y py)) l env = pure false := by
  unfold swapsWith
  simp only [Expr.pos, hl]
  cases env.blockKind <;> cases env.kindOf y <;> simp
theorem ps_setDc {i : Nat} {y : Str} {py : Pos} {scope : Scope} {own : List (Str × Nat)} {spos : Pos} {wi : TI} {g : TG} {tt : TT} {tk tv : TE} (hc : X.calm = true) (hN : X.N.Nodup) (hy : X.N[i]? = some y) (hyl : X.env.scope.names.lookup y = some .local)
    (hsw : swapsWith (.DictComp kx elt [⟨tg, iter, ifs, 0⟩] scope pos) (some (.Name y py)) spos.line X.env = pure true) (hi : PI X tg iter wi) (ok : BlkOk X.N X.env.scope scope own)
    (hg : ∀ (s : Shared) (H : Hp) (C : Addr) (cl : List (Str × Addr)) (fp : List Addr), PG (X.blk s H scope (compEnvC scope cl C X.env) fp) tg g) (ht : ∀ (s : Shared) (H : Hp) (C : Addr) (cl : List (Str × Addr)) (fp : List Addr), PTs (X.blk s H scope (compEnvC scope cl C X.env) fp) ifs tt)
    (hk : ∀ (s : Shared) (H : Hp) (C : Addr) (cl : List (Str × Addr)) (fp : List Addr), PE (X.blk s H scope (compEnvC scope cl C X.env) fp) kx tk)
    (he : ∀ (s : Shared) (H : Hp) (C : Addr) (cl : List (Str × Addr)) (fp : List Addr), PE (X.blk s H scope (compEnvC scope cl C X.env) fp) elt tv) (hs : ∀ x, foldedSetIterable iter X.env x = pure x := by intro _; rfl) :
    PS X (.Assign [.Name y py] (.DictComp kx elt [⟨tg, iter, ifs, 0⟩] scope pos) spos) (tAsg (tDc wi g tt tk tv (own.map (·.2))) (gName i)) := by
  refine ⟨fun pins s σ H D I h => ?_⟩
  rw [exec_Assign_Name_used _ _ _ _ hsw]
  refine wpAny_bind (wpAny_standAt (wpAny_bind ?_))
  show wpAny _ X.A (do let _ ← comprehension (.DictComp kx elt [⟨tg, iter, ifs, 0⟩] scope pos) scope X.env (firstIterPos [⟨tg, iter, ifs, 0⟩] pos) newDict false (eval iter X.env) (some (assign (.Name y py) X.env))) _ _ s
  have h : tDc wi g tt tk tv (own.map (·.2)) σ H (fun x H1 => gName i x σ H1 D.nx) := h
  refine wpAny_bind (thn (dc_core (Qf := fun _ s' => SP X pins D .next s') hc hN I hi ok hg ht hk he hs h fun L C s' m H' I' q hn f => ?_) fun _ s' hq => wpAny_pure (wpAny_pure hq))
  show wpAny _ _ (assign (.Name y py) X.env (.ref L)) _ _ _
  refine wpAny_assign_Name (store_ok2 (v := V.ref L) I' hN hy (.inl hyl) rfl (fun s2 I2 ⟨a, sb, ha⟩ => ?_) (.inr hyl))
  obtain ⟨f0, f1, f2, f3, f4, f5⟩ := f
  have haC : C ≠ a := by
    rcases ha with z | z
    · rw [z]; exact f1
    · exact fun e => f4 y a z e.symm
  refine ⟨m, hn.sameBut sb haC, fun h3 sb3 => ?_⟩
  exact ⟨_, H', I2.turned (t' := s2.toks) (fun b o hb e => (sb3.2 b hb).trans e) f0 f1 f3 f4 f5, q⟩
theorem s_dc {x : Str} {i : Nat} {py spos : Pos} {scope : Scope} {own : List (Str × Nat)} {ts vs : List Nat} {fi : Ix} {ft : Gx} {tt : Tx} {fk fe : Ex} (sl : Slot g x i) (hloc : g.sc.names.lookup x = some .local) (hline : (py.line == pos.line) = true) (hown : (scope.names.any fun (n, k) => n == x && (k == .local || k == .cell)) = false)
    (hkind : g.sc.kind = .function) (ok : blkC g.N g.sc scope own = true) (hvs : own.map (·.2) = vs) (hts : (ts.all fun i => vs.contains i) = true) (hi : IOk g tg iter fi)
    (hg : ∀ H0, GOk (g.blk scope H0) tg ts ft) (ht : ∀ H0, TsOk (g.blk scope H0) ifs tt) (hk : ∀ H0, EOk (g.blk scope H0) kx fk) (he : ∀ H0, EOk (g.blk scope H0) elt fe) (hs : ∀ env x, foldedSetIterable iter env x = pure x := by intro _ _; rfl) :
    SOk g (.Assign [.Name x py] (.DictComp kx elt [⟨tg, iter, ifs, 0⟩] scope pos) spos) (sSet g.ios i (eDc g.ios vs fi ft tt fk fe)) := fun X W A tk => by
  subst hvs
  have hts' : ∀ i ∈ ts, i ∈ own.map (·.2) := fun i hi => by simpa using List.all_eq_true.mp hts i hi
  have key := ps_setDc (i := i) (y := x) (py := py) (spos := spos) (g := fun v σ H Q => ∃ H0, tGx X.K (g.blk scope H0) ts ft v σ H Q) (tt := fun σ H Q => ∃ H0, tT X.K (g.blk scope H0) tt (fun _ _ _ _ => False) σ H Q) (tk := fun σ H Q => ∃ H0, tF X.K (g.blk scope H0) fk (fun _ _ _ _ => False) σ H Q) (tv := fun σ H Q => ∃ H0, tF X.K (g.blk scope H0) fe (fun _ _ _ _ => False) σ H Q)
    (own := own) (scope := scope) (pos := pos) A.calm (by rw [A.N]; exact sl.nd) (by rw [A.N]; exact sl.ix) (by rw [A.sc]; exact hloc) (swD_true (by rw [A.sc]; exact hkind) (by rw [A.sc]; exact hloc) hline hown) (hi X W A.toAt tk) (by rw [A.N, A.sc]; exact blkOk_by ok)
    (fun s H C cl fp => ⟨fun pins s σ H v u Q I r ⟨H0, q⟩ => ((hg H0) _ A.toAt.blk).run pins s σ H v u Q I r q⟩)
    (fun s H C cl fp => ⟨fun pins s σ H Q I ⟨H0, q⟩ => ((ht H0) _ _ A.toAt.blk takes0).run pins s σ H Q I q⟩)
    (fun s H C cl fp => ⟨fun pins s σ H Q I ⟨H0, q⟩ => ((hk H0).f A.toAt.blk takes0).run pins s σ H Q I q⟩)
    (fun s H C cl fp => ⟨fun pins s σ H Q I ⟨H0, q⟩ => ((he H0).f A.toAt.blk takes0).run pins s σ H Q I q⟩) (hs _)
  refine PS.imp key fun D σ H ⟨ρ, R, q⟩ => ?_
  refine read_dc (scope := scope) (own := own) (W := W) A.toAt hts' (fun {v σ2 H2 Q H0} h => ⟨H0, h⟩) (fun {σ2 H2 Q H0} h => ⟨H0, h⟩) (fun {σ2 H2 Q H0} h => ⟨H0, h⟩) (fun {σ2 H2 Q H0} h => ⟨H0, h⟩) ⟨ρ, R, ?_⟩
  unfold sSet eBd at q
  cases hf : eDc g.ios (own.map (·.2)) fi ft tt fk fe ρ with
  | stuck => rw [hf] at q; exact q.elim
  | exc c ρ1 => rw [hf] at q; exact fun cls H' R' x m => q cls σ H' x R' m
  | ok p =>
    obtain ⟨s, ρ1⟩ := p
    rw [hf] at q
    have hso : ∃ d, s = .o d := by
      unfold eDc at hf
      obtain ⟨p1, _, h2⟩ := bind_is hf
      split at h2
      · obtain ⟨p3, _, h4⟩ := bind_is h2
        cases h4
        exact ⟨_, rfl⟩
      · cases h2
    obtain ⟨d, rfl⟩ := hso
    intro H1 E1 R1 x sr
    have q : PsS X.K g H W D (if i ∈ g.ios then .stuck else .ok (.next (ρ1.set i (some (.o d))))) := q
    split at q
    · exact q.elim
    · rename_i hio
      exact q _ H1 E1 (R1.set (s := .o d) sr hio)
end
/-! equations -/
@[simp] theorem x_eDc (l vs : List Nat) (fi : Ix) (ft : Gx) (tt : Tx) (fk fe : Ex) (ρ : Rho) : eDc l vs fi ft tt fk fe ρ = (fi ρ >>= fun p => if (∀ i ∈ vs, i ∉ l) then nox (dcLp l vs ft tt fk fe p.1 (wipeE p.2 vs) []) >>= fun q => .ok (.o (.dic false q.1), unwipe vs p.2 q.2) else .stuck) := (rfl)
end PL

/-! code that is not reached: a reckoning that is stuck tells nothing -/
namespace PL
open PySem PySem.Spec PyProof.Rows L2
def sStk : Sx := fun _ => .stuck
theorem s_stk {g : Cf} {st : Stmt} : SOk g st sStk := fun X W A t => ⟨fun pins s σ H D I ⟨ρ, R, q⟩ => q.elim⟩
/-! dict comprehensions in goals: no filter, keys that are different texts -/
section
variable {α β : Type}
def DTurn (l vs : List Nat) (ft : Gx) (fk fe : Ex) (d : D) (ρ : Rho) (z : Str) (g : D) : Prop :=
  ∃ ρ1 ρ2 ρ3, ft d ρ = some ρ1 ∧ eF l fk ρ1 = .ok (.str z, ρ2) ∧ eF l fe ρ2 = .ok (g, ρ3) ∧ wipeE ρ3 vs = ρ
theorem gGet_none {z : Str} : ∀ {kvs : List (D × D)}, (∀ p ∈ kvs, ∃ y, p.1 = .str y ∧ y ≠ z) → gGet false kvs [.inr z] = none
  | [], _ => by simp [gGet]
  | p :: r, h => by
    obtain ⟨y, e, ne⟩ := h p (List.mem_cons_self ..)
    rw [gGet_neg (by rw [e]; simp [kOf, keyD, ne])]
    exact gGet_none fun q hq => h q (List.mem_cons_of_mem _ hq)
theorem gPut_new {kvs : List (D × D)} {z : Str} {v : D} (h : ∀ p ∈ kvs, ∃ y, p.1 = .str y ∧ y ≠ z) : gPut false kvs [.inr z] (.str z) v = kvs ++ [(.str z, v)] := by
  simp [gPut, gGet_none h]
theorem dc_go {l vs : List Nat} {ft : Gx} {fk fe : Ex} {h : β → D} {ρ : Rho} (kk : β → Str) (vv : β → D) : ∀ (xs : List β) (acc : List β), acc.length + xs.length ≤ 16777216 → ((acc ++ xs).map kk).Nodup → (∀ x, x ∈ xs → DTurn l vs ft fk fe (h x) ρ (kk x) (vv x)) →
    dcLp l vs ft tsNo fk fe (xs.map h) ρ (acc.map fun x => (.str (kk x), vv x)) = .ok ((acc ++ xs).map fun x => (.str (kk x), vv x), ρ)
  | [], acc, _, _, _ => by rw [List.append_nil]; rfl
  | x :: xs, acc, hl, hn, hs => by
    obtain ⟨ρ1, ρ2, ρ3, e1, e2, e3, e4⟩ := hs x (List.mem_cons_self ..)
    rw [List.length_cons] at hl
    have ih := dc_go (l := l) (vs := vs) (ft := ft) (fk := fk) (fe := fe) (h := h) (ρ := ρ) kk vv xs (acc ++ [x]) (by simp; omega) (by simpa using hn) (fun y hy => hs y (List.mem_cons_of_mem _ hy))
    have hp : gPut false (acc.map fun x => (D.str (kk x), vv x)) [.inr (kk x)] (.str (kk x)) (vv x) = (acc ++ [x]).map fun x => (D.str (kk x), vv x) := by
      rw [gPut_new]
      · simp
      · rintro p hp
        obtain ⟨y, hy, rfl⟩ := List.mem_map.mp hp
        have hn' := hn
        rw [List.map_append, List.nodup_append] at hn'
        exact ⟨_, rfl, hn'.2.2 (kk y) (List.mem_map_of_mem hy) (kk x) (by simp)⟩
    rw [List.map_cons, dcLp, e1]
    have ha : (acc.map fun x => (D.str (kk x), vv x)).length < 16777216 := by rw [List.length_map]; omega
    have k1 : keyD (.str (kk x)) = some (.inr (kk x)) := rfl
    simp only [liftO_some, bind_ok, tsNo, e2, e3, e4, k1, ha, hp, if_true]
    simpa using ih
theorem dc_P {l vs : List Nat} {ft : Gx} {fk fe : Ex} {h : β → D} {k : List (D × D) × Rho → Out α} {w : Wit k} {P : Out α → Prop} {ds : List D} {ρ : Rho} (xs : List β) (kk : β → Str) (vv : β → D) (hd : ds = xs.map h) (hl : xs.length ≤ 16777216) (hn : (xs.map kk).Nodup)
    (hs : ∀ x, x ∈ xs → DTurn l vs ft fk fe (h x) ρ (kk x) (vv x)) (he : P (k (xs.map (fun x => (.str (kk x), vv x)), ρ))) : P (bnd k w (nox (dcLp l vs ft tsNo fk fe ds ρ []))) := by
  subst hd
  have := dc_go (l := l) (vs := vs) (ft := ft) (fk := fk) (fe := fe) (h := h) (ρ := ρ) kk vv xs [] (by simpa using hl) (by simpa using hn) hs
  rw [List.map_nil] at this
  rw [this]
  exact he
theorem dc_b {l vs : List Nat} {ft : Gx} {fk fe : Ex} {h : β → D} {k : List (D × D) × Rho → Out α} {w : Wit k} {o : Out α} {ds : List D} {ρ : Rho} (xs : List β) (kk : β → Str) (vv : β → D) (hd : ds = xs.map h) (hl : xs.length ≤ 16777216) (hn : (xs.map kk).Nodup)
    (hs : ∀ x, x ∈ xs → DTurn l vs ft fk fe (h x) ρ (kk x) (vv x)) (he : k (xs.map (fun x => (.str (kk x), vv x)), ρ) = o) : bnd k w (nox (dcLp l vs ft tsNo fk fe ds ρ [])) = o := dc_P (P := (· = o)) xs kk vv hd hl hn hs he
end
theorem gGet_map {β : Type} (kk : β → Str) (vv : β → D) (z : Str) : ∀ xs : List β, gGet false (xs.map fun x => (D.str (kk x), vv x)) [.inr z] = ((xs.find? fun x => decide (kk x = z)).map vv)
  | [] => by simp [gGet]
  | x :: xs => by
    have ih := gGet_map kk vv z xs
    by_cases e : kk x = z
    · rw [List.map_cons, gGet_pos (by simp [kOf, keyD, e])]
      simp [e]
    · rw [List.map_cons, gGet_neg (by simp [kOf, keyD, e]), ih]
      simp [e]
/-! comprehensions whose turns change the state, and whose items are told by the state -/
section
variable {α β : Type}
def LVE (vs : List Nat) (G : D → Rho → Prop) : Out (D × Rho) → Prop
  | .ok (v, ρ3) => G v (wipeE ρ3 vs)
  | _ => False
def LTE (l vs : List Nat) (fe : Ex) (G : D → Rho → Prop) : Out (Bool × Rho) → Prop
  | .ok (b, ρ2) => b = true ∧ LVE vs G (eF l fe ρ2)
  | _ => False
section
variable {l vs : List Nat} {fe : Ex} {G : D → Rho → Prop} {ρ : Rho} {b : Bool} {v : D}
@[simp] theorem x_LVE : LVE vs G (.ok (v, ρ)) = G v (wipeE ρ vs) := (rfl)
@[simp] theorem x_LTE : LTE l vs fe G (.ok (b, ρ)) = (b = true ∧ LVE vs G (eF l fe ρ)) := (rfl)
end
theorem lmE_go {l vs : List Nat} {ft : Gx} {fe : Ex} {h : β → D} (all : List β) (J : Nat → List D → Rho → Prop) (hs : ∀ i x acc ρ, all[i]? = some x → J i acc ρ → LTE l vs fe (fun g ρ' => J (i + 1) (acc ++ [g]) ρ') (bnd tsNo () (liftO (ft (h x) ρ)))) :
    ∀ (xs : List β) (n : Nat) (acc : List D) (ρ : Rho), all.drop n = xs → n + xs.length = all.length → acc.length + xs.length ≤ 16777216 → J n acc ρ → ∃ acc' ρ', lcLp l vs ft tsNo fe (xs.map h) ρ acc = .ok (acc', ρ') ∧ J all.length acc' ρ'
  | [], n, acc, ρ, _, hn, _, hj => ⟨acc, ρ, rfl, by rw [← hn]; exact hj⟩
  | x :: xs, n, acc, ρ, e, hn, hl, hj => by
    have hx : all[n]? = some x := by
      have := congrArg (fun l => l[0]?) e
      simpa using this
    have s := hs n x acc ρ hx hj
    have e' : all.drop (n + 1) = xs := by rw [← List.drop_drop, e]; rfl
    rw [List.length_cons] at hn hl
    have ih := fun acc' ρ' hl' => lmE_go (l := l) (vs := vs) (ft := ft) (fe := fe) (h := h) all J hs xs (n + 1) acc' ρ' e' (by omega) hl'
    rw [List.map_cons, lcLp]
    cases e1 : ft (h x) ρ with
    | none => rw [e1] at s; exact s.elim
    | some ρ1 =>
      rw [e1] at s
      have s : LTE l vs fe (fun g ρ' => J (n + 1) (acc ++ [g]) ρ') (tsNo ρ1) := s
      rw [liftO_some, bind_ok]
      cases e2 : tsNo ρ1 with
      | stuck => rw [e2] at s; exact s.elim
      | exc c' ρ' => rw [e2] at s; exact s.elim
      | ok p =>
        obtain ⟨b, ρ2⟩ := p
        rw [e2] at s
        obtain ⟨hb, s⟩ := s
        subst hb
        rw [bind_ok]
        cases e3 : eF l fe ρ2 with
        | stuck => rw [e3] at s; exact s.elim
        | exc c' ρ' => rw [e3] at s; exact s.elim
        | ok p =>
          obtain ⟨v, ρ3⟩ := p
          rw [e3] at s
          obtain ⟨a', ρ', h1, h2⟩ := ih (acc ++ [v]) (wipeE ρ3 vs) (by rw [List.length_append, List.length_singleton]; omega) s
          refine ⟨a', ρ', ?_, h2⟩
          rw [if_pos rfl, bind_ok, if_pos (by omega), h1]
theorem lmE_P {l vs : List Nat} {ft : Gx} {fe : Ex} {h : β → D} {k : List D × Rho → Out α} {w : Wit k} {P : Out α → Prop} {ds : List D} {ρ : Rho} (xs : List β) (J : Nat → List D → Rho → Prop) (hd : ds = xs.map h) (hl : xs.length ≤ 16777216) (h0 : J 0 [] ρ)
    (hs : ∀ i x acc ρ, xs[i]? = some x → J i acc ρ → LTE l vs fe (fun g ρ' => J (i + 1) (acc ++ [g]) ρ') (bnd tsNo () (liftO (ft (h x) ρ)))) (he : ∀ acc ρ, J xs.length acc ρ → P (k (acc, ρ))) : P (bnd k w (nox (lcLp l vs ft tsNo fe ds ρ []))) := by
  subst hd
  obtain ⟨a, ρ', h1, h2⟩ := lmE_go xs J hs xs 0 [] ρ rfl (by omega) (by simpa using hl) h0
  rw [h1]
  exact he a ρ' h2
theorem lmE_v {Q : α → Prop} {l vs : List Nat} {ft : Gx} {fe : Ex} {h : β → D} {k : List D × Rho → Out α} {w : Wit k} {ds : List D} {ρ : Rho} (xs : List β) (J : Nat → List D → Rho → Prop) (hd : ds = xs.map h) (hl : xs.length ≤ 16777216) (h0 : J 0 [] ρ)
    (hs : ∀ i x acc ρ, xs[i]? = some x → J i acc ρ → LTE l vs fe (fun g ρ' => J (i + 1) (acc ++ [g]) ρ') (bnd tsNo () (liftO (ft (h x) ρ)))) (he : ∀ acc ρ, J xs.length acc ρ → Ev (k (acc, ρ)) Q) : Ev (bnd k w (nox (lcLp l vs ft tsNo fe ds ρ []))) Q := lmE_P (P := (Ev · Q)) xs J hd hl h0 hs he
theorem lmE_a {J' : Rho → Prop} {k' : Fl → Out α} {P' : Out α → Prop} {l vs : List Nat} {ft : Gx} {fe : Ex} {h : β → D} {k : List D × Rho → Out Fl} {w : Wit k} {ds : List D} {ρ : Rho} (xs : List β) (J : Nat → List D → Rho → Prop) (hd : ds = xs.map h) (hl : xs.length ≤ 16777216) (h0 : J 0 [] ρ)
    (hs : ∀ i x acc ρ, xs[i]? = some x → J i acc ρ → LTE l vs fe (fun g ρ' => J (i + 1) (acc ++ [g]) ρ') (bnd tsNo () (liftO (ft (h x) ρ)))) (he : ∀ acc ρ, J xs.length acc ρ → Aft J' k' P' (k (acc, ρ))) : Aft J' k' P' (bnd k w (nox (lcLp l vs ft tsNo fe ds ρ []))) := lmE_P (P := Aft J' k' P') xs J hd hl h0 hs he
end
end PL

namespace PL
open PySem PySem.Spec PyProof.Rows L2
section
variable {g : Cf} {e : Expr} {pos : Pos} {X : Cx}
/-! try .. except x as n: y = e -/
def sTryS (l : List Nat) (i j : Nat) (tab : List (Str × Bool)) (h : Hx) (f : Sx) : Sx := fun ρ => match f ρ with
  | .ok r => .ok r
  | .stuck => .stuck
  | .exc c ρ' => match look tab c with
    | some true => (match h c with
      | some d => if i + 1 ≤ ρ'.length ∧ i ∉ l ∧ j ∉ l then .ok (.next (wipeE (ρ'.set j (some (.v d))) [i])) else .stuck
      | none => .stuck)
    | some false => .exc c ρ'
    | none => .stuck
theorem x_sTryS (l : List Nat) (i j : Nat) (tab : List (Str × Bool)) (h : Hx) (f : Sx) (ρ : Rho) : sTryS l i j tab h f ρ = (match f ρ with
  | .ok r => .ok r
  | .stuck => .stuck
  | .exc c ρ' => match look tab c with
    | some true => (match h c with
      | some d => if i + 1 ≤ ρ'.length ∧ i ∉ l ∧ j ∉ l then .ok (.next (wipeE (ρ'.set j (some (.v d))) [i])) else .stuck
      | none => .stuck)
    | some false => .exc c ρ'
    | none => .stuck) := (rfl)
def tHS (g : Cf) (K : PySem.W.Frag) (i j : Nat) (h : Hx) (a : Addr) (cls : Value) (d : Option Addr) : TS := fun D σ H => d = none ∧ ∃ c dv, g.mg c = some cls ∧ σ[i]? = some (some (.ref a)) ∧ h c = some dv ∧ ∀ x H', Same H H' → Imm K H' dv x → D.nx (σ.set j (some x)) H'
theorem suite_okS {n y : Str} {i j : Nat} {h : Hx} {p1 p2 : Pos} (A : At g X) (hh : HOk g n i e h) (hy : Slot g y j) (hw : ∀ env, swapsWith e (some (.Name y p2)) p1.line env = pure false) (hm1 : (X.env.scope.names.lookup y) = (g.sc.names.lookup y)) (a : Addr) (oe : Obj) (cls : Value) (d : Option Addr) (pn : List (Addr × Obj)) (hz : Zc cls d oe) (hf : ∃ vs, oe.data = .fields vs) : PSs (X.suite a ((a, oe) :: pn)) [.Assign [.Name y p2] e p1] (tHS g X.K i j h a cls d) := by
  refine pss_one ⟨fun pins s σ H D I ⟨hd, c, dv, hm, hs, hc, q⟩ => ?_⟩
  subst hd
  have hN : (X.suite a ((a, oe) :: pn)).N = g.N := by show X.N = _; rw [A.N]
  have hS : (X.suite a ((a, oe) :: pn)).env.scope = g.sc := by show X.env.scope = _; rw [A.sc]
  refine (ps_set (X := X.suite a ((a, oe) :: pn)) (i := j) (x := y) (by rw [hN]; exact hy.nd) (by rw [hN]; exact hy.ix) (by unfold L2.Loc; rw [hS]; exact hy.loc) (hh X A a oe cls pn c hz hf hm) (hw _) (by rw [hS]; exact hy.fn.imp (A.fn y) id)).run pins s σ H D I ⟨.inr hs, dv, hc, q⟩
theorem s_tryS {body : List Stmt} {x n y : Str} {i j : Nat} {np p1 p2 pos' : Pos} {tab : List (Str × Bool)} {h : Hx} {f : Sx} (hx : Cat g x tab) (hb : SsOk g body f) (hh : HOk g n i e h) (hN : g.N[i]? = some n) (nd : g.N.Nodup) (hloc : g.sc.names.lookup n = some .local) (hy : Slot g y j) (hij : i ≠ j) (hgx : Glo g x := by rfl)
    (hw : ∀ env, swapsWith e (some (.Name y p2)) p1.line env = pure false := by intro _; rfl) :
    SOk g (.Try body [.ExceptHandler (some (.Name x np)) (some n) [.Assign [.Name y p2] e p1] pos'] [] [] pos) (sTryS g.ios i j tab h f) := fun X W A tk => by
  obtain ⟨cv, ⟨hdb, hx1⟩, ht⟩ := hx.ex
  have hi : X.N[i]? = some n := by rw [A.N]; exact hN
  have key := ps_try_as (pos := pos) (pos' := pos') (np := np) (x := x) (c := cv) (body := body) (tb := fun W => tS X.K g f W) (ts := tHS g X.K i j h) A.stk A.fr (by rw [A.N]; exact nd) hi (by show X.env.scope.names.lookup n = _; rw [A.sc]; exact hloc) ⟨hgx.gl A.toAt, hdb, by rw [A.mg]; exact hx1⟩ tk
    (fun W pn xe tk' p => hb _ W (A.tr p) tk') (fun a oe cls d pn hz hf => suite_okS (p1 := p1) (p2 := p2) A.toAt hh hy hw (by rw [A.sc]) a oe cls d pn hz hf)
  refine ⟨fun pins s σ H D I t => ?_⟩
  refine key.run pins s σ H D I ?_
  obtain ⟨ρ, R, q⟩ := t
  refine ⟨ρ, R, ?_⟩
  unfold sTryS at q
  cases hf : f ρ with
  | stuck => rw [hf] at q; exact q.elim
  | ok r =>
    rw [hf] at q
    have q : PsS X.K g H W D (.ok r) := q
    cases r <;> exact q
  | exc c ρ' =>
    rw [hf] at q
    dsimp only at q
    intro cls σ' H' E' R' hm
    cases hl : look tab c with
    | none => rw [hl] at q; exact q.elim
    | some b =>
      rw [hl] at q
      obtain ⟨C, hm2, hk⟩ := ht c b (look_mem hl)
      rw [hm] at hm2
      cases hm2
      refine ⟨b, by rw [A.K]; exact hk, fun hb a ha => ?_, fun hb => ?_⟩
      · subst hb
        dsimp only at q
        cases hc : h c with
        | none => rw [hc] at q; exact q.elim
        | some d =>
          rw [hc] at q
          dsimp only at q
          split at q
          case isFalse => exact q.elim
          rename_i hlen
          obtain ⟨hlen, n1, n2⟩ := hlen
          refine ⟨rfl, c, d, hm, List.getElem?_set_self (by rw [← R'.len]; omega), hc, fun x H2 sm im => ?_⟩
          have R2 := (R'.same sm).set (s := .v d) (x := x) (i := j) im n2
          have R3 := R2.wipe (vs := [i]) (fun k hk => by cases List.mem_singleton.mp hk; exact n1)
          have e2 : ((σ'.set i (some (V.ref a))).set j (some x)).set i none = L2.wipe (σ'.set j (some x)) [i] := by
            show _ = (σ'.set j (some x)).set i none
            rw [List.set_comm _ _ hij, List.set_set]
          show D.nx (((σ'.set i (some (V.ref a))).set j (some x)).set i none) H2
          rw [e2]
          exact q _ H2 (E'.trans (Ext.of_same sm)) R3
      · subst hb
        exact q _ σ' H' E' R' hm
end
end PL

namespace PL
open PySem PySem.Spec PyProof.Rows L2
/-! list.index -/
def ixOf (d : D) : List D → Option Nat
  | [] => none
  | e :: es => if eqD e d = true then some 0 else (ixOf d es).map (· + 1)
def mIndex (ls ds : List D) : Option (D × List D) := match ds with
  | [d] => if shp d = true ∧ shp (.lst ls) = true then (ixOf d ls).map fun j => (.int (j : Nat), ls) else none
  | _ => none
theorem toPyL_get : ∀ (ls : List D) (j : Nat), (toPyL ls)[j]? = (ls[j]?).map toPy
  | [], j => by simp [toPyL]
  | d :: ls, 0 => by simp [toPyL]
  | d :: ls, j + 1 => by
    have := toPyL_get ls j
    simp [toPyL, this]
theorem ixOf_is (d : D) : ∀ (ls : List D) (j : Nat), ixOf d ls = some j → (∃ z, ls[j]? = some z ∧ eqD z d = true) ∧ ∀ (m : Nat) (z : D), m < j → ls[m]? = some z → eqD z d = false
  | [], j, h => by cases h
  | e :: es, j, h => by
    unfold ixOf at h
    split at h
    · rename_i c
      cases h
      exact ⟨⟨e, rfl, c⟩, fun m z hm => by omega⟩
    · rename_i c
      cases hi : ixOf d es with
      | none => rw [hi] at h; cases h
      | some k =>
        rw [hi] at h
        cases h
        obtain ⟨⟨z, h1, h2⟩, h3⟩ := ixOf_is d es k hi
        refine ⟨⟨z, by simpa using h1, h2⟩, fun m z hm hz => ?_⟩
        cases m with
        | zero =>
          have : e = z := by simpa using hz
          subst this
          simpa using c
        | succ m => exact h3 m z (by have hm : m + 1 < k + 1 := hm; omega) (by simpa using hz)
section
variable {g : Cf} {X : Cx}
theorem m_index (A : At g X) : MtR X "list.index" (rIndexD X.K) ∧ MlR X (rIndexD X.K) mIndex := ⟨mt_indexD (by have := A.room.un; omega), fun a vs xs H Q ls ds ls' z hv iv im hod q => by
  match ds, hod with
  | [d], hod =>
    obtain ⟨x, rfl, ix⟩ := immL_1 im
    simp only [mIndex] at hod
    split at hod
    case isFalse => cases hod
    rename_i hs
    cases hi : ixOf d ls with
    | none => rw [hi] at hod; cases hod
    | some j =>
      rw [hi] at hod
      cases hod
      obtain ⟨⟨y, h1, h2⟩, h3⟩ := ixOf_is d ls j hi
      have ll : PyData.canLayAll0 (toPyL ls) = true := by have := lay_of_shp hs.2; simpa [toPy, PyData.canLay0] using this
      refine ⟨a, x, toPy d, toPyL ls, j, toPy y, rfl, rfl, .lst (SqL.of hv) (dp_immL iv ll), dp_imm ix (lay_of_shp hs.1), ?_, hs.1, by rw [toPyL_get, h1]; rfl, h2, fun m z' hm hz => ?_, ?_⟩
      · exact hs.2
      · rw [toPyL_get] at hz
        cases e : ls[m]? with
        | none => rw [e] at hz; cases hz
        | some w => rw [e] at hz; cases hz; exact h3 m w hm e
      · exact q _ H (Ext.refl H) (fun _ _ => rfl) ⟨vs, hv, iv⟩ rfl⟩
theorem m_index' (A : At g X) : MtR X "list.index" (rIndexD g.K) ∧ MlR X (rIndexD g.K) mIndex := by rw [← A.K]; exact m_index A
/-! a call without arguments -/
section
variable {CX : CXT} {k : Nat} {f : Addr} {fd : FuncData} {ps : List Str} {sp : Sp} {E : L2.St → XK} {x : Str} {p pos : Pos}
theorem pe_callS0 (F : FnOk X.prog X.w X.K X.mg X.base CX k f fd ps sp) (hr : Room k X.A) (hg : Gl X x) (hm : X.mg x = some (.ref f)) (hk : PySem.W.keepIn X.K (.ref f) = true) (hb : Binds X.K fd ps []) (hx : ∀ σ, PassesAt CX X σ (E σ))
    (hdb : (x == ("__debug__" : Str)) = false := by decide) : PE X (.Call (.Name x p) [] [] pos) (tCallS sp E tNil) := by
  refine ⟨fun pins s σ H Q I h => ?_⟩
  refine wpAny_Call_Name_kw (ld_glob I hg hm ?_ hdb)
  exact PySem.W.callWith_K0 I.kIn hk (run_fnS (us := []) F hr hb (hx σ) I .nil h)
end
theorem e_call0 {x : Str} {p pos : Pos} {F : Fn} (hc : Cal g x 0 F) (hg : Glo g x := by rfl) (hdb : (x == ("__debug__" : Str)) = false := by decide) : EOk g (.Call (.Name x p) [] [] pos) (eCall g.ios 0 F aNil) := fun X W A tk => by
  obtain ⟨f, fd, ps, h1, h2, h3, h4⟩ := hc.ex
  have h1' : FnOk X.prog X.w X.K X.mg X.base (L2.CX X.prog X.w) g.k f fd ps (spF X.K X.mg 0 F) := by rw [A.prog, A.w, A.K, A.mg, A.base]; exact h1
  refine PE.imp (pe_callS0 h1' A.room (hg.gl A) (by rw [A.mg]; exact h2) (by rw [A.K]; exact h3) (by rw [A.K]; exact h4) (fun σ => passAt tk σ) hdb) fun σ H Q ⟨ρ, R, q⟩ => ?_
  have e : eCall g.ios 0 F aNil ρ = atR ρ (F []) := rfl
  rw [e] at q
  refine ⟨[], rfl, rfl, ?_⟩
  cases hF : F [] with
  | stuck => rw [hF] at q; exact q.elim
  | exc c ρ' => rw [hF] at q; exact fun cls H' sm hm => q cls H' (R.same sm) (Ext.of_same sm) (by rw [← A.mg]; exact hm)
  | ok s => rw [hF] at q; exact fun H' y sm rs => q H' (Ext.of_same sm) (R.same sm) y (rs.sr R)
end
/-! a tuple among the module's constants -/
theorem Con0.ktp {K : PySem.W.Frag} {h : Heap} {mg : Str → Option Value} {x : Str} (X : K.In h) (G : h.Ns mainGlobals mg) {a : Addr} {its : Array Value} {n : Nat} {sl : Array (Option Value)} {ds : List D} {vs : List V}
    (e : PySem.W.nsIn K mainGlobals x = some (some (.ref a))) (l : K.lookup a = some ⟨.type "tuple", none, .seq its n, sl⟩) (hs : its.size ≤ sizeLine) (hv : Vals vs its.toList) (hi : ∀ H, ImmL K H ds vs) : Con0 K mg x (.ktp ds) :=
  ⟨_, .ref a, PySem.W.mg_of X G e, rfl, fun H => ⟨a, vs, rfl, ⟨_, its, n, l, rfl, rfl, rfl, hs, hv⟩, hi H⟩⟩
end PL

namespace PL
open PySem PySem.Spec PyProof.Rows L2
/-! min, max of a tuple of ints -/
def minF (n : Int) (ns : List Int) : Int := ns.foldl (fun a y => if y < a then y else a) n
def maxF (n : Int) (ns : List Int) : Int := ns.foldl (fun a y => if a < y then y else a) n
theorem minOf_is (n : Int) (ns : List Int) : PySem.W.minOf n ns = minF n ns := by
  unfold PySem.W.minOf minF
  congr 1
  funext a y
  show (if decide (y < a) = true then y else a) = _
  simp
theorem maxOf_is (n : Int) (ns : List Int) : PySem.W.maxOf n ns = maxF n ns := by
  unfold PySem.W.maxOf maxF
  congr 1
  funext a y
  show (if decide (a < y) = true then y else a) = _
  simp
section
variable {X : Cx}
theorem call_minT (hc : X.calm = true) (hu : X.A.units + 65 < cLine) : CallR X (.builtin "min") (fun xs H Q => ∃ (a : Addr) (n : Int) (ns : List Int), xs = [.ref a] ∧ SqT X.K H a ((n :: ns).map V.int) ∧ Q (.int (minF n ns)) H) := by
  intro pins s σ H xs us Q I r q
  obtain ⟨a, n, ns, ex, hd, q⟩ := q
  subst ex
  obtain ⟨u, eu, rx⟩ := vals1 r
  subst eu
  cases rx
  obtain ⟨its, rv, p1, hz⟩ := I.tuple hd
  have hI := rv.ints
  refine PySem.W.min_tuple_datum (α := Int) (x := n) (xs := ns) (I.ok.hd hc) p1 ⟨[], hI.reads s.heap⟩ (by show X.A.units + 1 + 0 < cLine; omega) fun i v h' tk hi hv hk => ?_
  obtain ⟨as, hr⟩ := hv
  obtain ⟨t, ev, _⟩ := reads_int_inv hr
  subst ev
  rw [minOf_is]
  exact ⟨.int _, H, I.kept hk, ⟨t, rfl⟩, q⟩
theorem call_maxT (hc : X.calm = true) (hu : X.A.units + 65 < cLine) : CallR X (.builtin "max") (fun xs H Q => ∃ (a : Addr) (n : Int) (ns : List Int), xs = [.ref a] ∧ SqT X.K H a ((n :: ns).map V.int) ∧ Q (.int (maxF n ns)) H) := by
  intro pins s σ H xs us Q I r q
  obtain ⟨a, n, ns, ex, hd, q⟩ := q
  subst ex
  obtain ⟨u, eu, rx⟩ := vals1 r
  subst eu
  cases rx
  obtain ⟨its, rv, p1, hz⟩ := I.tuple hd
  have hI := rv.ints
  refine PySem.W.max_tuple_datum (α := Int) (x := n) (xs := ns) (I.ok.hd hc) p1 ⟨[], hI.reads s.heap⟩ (by show X.A.units + 1 + 0 < cLine; omega) fun i v h' tk hi hv hk => ?_
  obtain ⟨as, hr⟩ := hv
  obtain ⟨t, ev, _⟩ := reads_int_inv hr
  subst ev
  rw [maxOf_is]
  exact ⟨.int _, H, I.kept hk, ⟨t, rfl⟩, q⟩
end
def dMin1 : List D → Option S
  | [.tup ds] => match intsD ds with
    | some (n :: ns) => some (.v (.int (minF n ns)))
    | _ => none
  | ds => dMin ds
def dMax1 : List D → Option S
  | [.tup ds] => match intsD ds with
    | some (n :: ns) => some (.v (.int (maxF n ns)))
    | _ => none
  | ds => dMax ds
section
variable {g : Cf} {X : Cx}
theorem c_min1 (A : At g X) : CR X (.builtin "min") dMin1 := by
  obtain ⟨R, h1, h2⟩ := c_min A
  refine ⟨_, CallR.or h1 (call_minT A.calm (by have := A.room.un; omega)), fun xs H Q ds s p h q => ?_⟩
  unfold dMin1 at h
  split at h
  · rename_i es
    obtain ⟨x, rfl, r⟩ := pair1 p
    obtain ⟨a, vs, rfl, s1, i1⟩ := r.tup
    split at h
    · rename_i n ns hn
      cases h
      refine .inr ⟨a, n, ns, rfl, ?_, q _ H (Same.refl H) rfl⟩
      rw [← immL_ints i1 hn]
      exact s1.seq
    · cases h
  · exact .inl (h2 xs H Q ds s p h q)
theorem c_max1 (A : At g X) : CR X (.builtin "max") dMax1 := by
  obtain ⟨R, h1, h2⟩ := c_max A
  refine ⟨_, CallR.or h1 (call_maxT A.calm (by have := A.room.un; omega)), fun xs H Q ds s p h q => ?_⟩
  unfold dMax1 at h
  split at h
  · rename_i es
    obtain ⟨x, rfl, r⟩ := pair1 p
    obtain ⟨a, vs, rfl, s1, i1⟩ := r.tup
    split at h
    · rename_i n ns hn
      cases h
      refine .inr ⟨a, n, ns, rfl, ?_, q _ H (Same.refl H) rfl⟩
      rw [← immL_ints i1 hn]
      exact s1.seq
    · cases h
  · exact .inl (h2 xs H Q ds s p h q)
end
@[simp] theorem x_min1L (ds : List D) : dMin1 [.lst ds] = dMin [.lst ds] := (rfl)
@[simp] theorem x_max1L (ds : List D) : dMax1 [.lst ds] = dMax [.lst ds] := (rfl)
@[simp] theorem x_min1P (i j : Int) : dMin1 [.tup [.int i, .int j]] = some (.v (.int (if j < i then j else i))) := (rfl)
@[simp] theorem x_max1P (i j : Int) : dMax1 [.tup [.int i, .int j]] = some (.v (.int (if i < j then j else i))) := (rfl)
@[simp] theorem x_ixK (ds : List D) (i : Int) : dIx (.ktp ds) (.int i) = (L2.atI ds i).map .v := (rfl)
end PL

namespace K16
open PL PySem
def c_GREATEST_BOTTOM : D := .int 1000
def c_GREATEST_TOP : D := .int 1000000
def c_MOST_READINGS : D := .int 4
def c_MOST_TERMS : D := .int 6
def c_ZERO : D := .ktp [.int 0, .int 1]
def b__law_pool_f1 : Sx := sIf (tOr (t2 dGt (eVar 3) (eC (.int 0))) (t2 dEq (eVar 4) (eC (.int 0)))) (sSeq (sEx (eMl [] 1 mAppend (aCons (e2 dMod (eB dInt1 (aCons (eVar 3) (aNil))) (eC (.int 1000))) (aNil)))) (sSet [] 3 (e2 dDiv (eVar 3) (eC (.int 1000))))) (sNil)
def b__law_pool_f2 : Sx := sSeq (sSet [] 3 (eB dAbs (aCons (eB dInt1 (aCons (eVar 2) (aNil))) (aNil)))) (sFor (iRg1 (aCons (eC (.int 40)) (aNil))) (gNm [] 4) b__law_pool_f1)
def b__law_pool : Sx := sSeq (sSet [] 1 (eLst [] (aNil))) (sSeq (sFor (iVal [] (eSl (eVar 0) (pNo) (pSo (eC (.int 63))))) (gNm [] 2) b__law_pool_f2) (sRet [] (eSl (eVar 1) (pNo) (pSo (eC (.int 240))))))
def m__law_pool : Fn := runF 4 b__law_pool
def b__law_at : Sx := sSeq (sIf (t2 dLt (eVar 1) (eB dLen1 (aCons (eVar 0) (aNil)))) (sRet [] (e2 dIx (eVar 0) (eVar 1))) (sNil)) (sSeq (sSet [] 2 (e2 dAdd (eC (.int 11)) (e2 dMul (eC (.int 37)) (eVar 1)))) (sSeq (sIf (t2 dGt (eB dLen1 (aCons (eVar 0) (aNil))) (eC (.int 0))) (sSet [] 2 (e2 dAdd (e2 dAdd (eVar 2) (e2 dMul (e2 dAdd (e2 dIx (eVar 0) (e2 dMod (eB dInt1 (aCons (eVar 1) (aNil))) (eB dLen1 (aCons (eVar 0) (aNil))))) (eC (.int 5))) (e2 dAdd (e2 dMul (eVar 1) (eVar 1)) (eC (.int 17))))) (eB dLen1 (aCons (eVar 0) (aNil))))) (sNil)) (sSeq (sSet [] 2 (e2 dMod (eB dInt1 (aCons (e2 dAdd (e2 dMul (eVar 2) (eC (.int 48271))) (eC (.int 12345))) (aNil))) (eC (.int 2147483647)))) (sSeq (sSet [] 2 (e2 dMod (eB dInt1 (aCons (e2 dAdd (e2 dMul (eVar 2) (eVar 2)) (eVar 1)) (aNil))) (eC (.int 2147483629)))) (sSeq (sSet [] 2 (e2 dMod (eB dInt1 (aCons (e2 dAdd (e2 dMul (eVar 2) (eVar 2)) (eC (.int 7))) (aNil))) (eC (.int 2147483647)))) (sRet [] (e2 dMod (eB dInt1 (aCons (e2 dDiv (eVar 2) (eC (.int 11))) (aNil))) (eC (.int 1000)))))))))
def m__law_at : Fn := runF 1 b__law_at
def b__law_strike_f1 : Sx := sSeq (sSet [] 10 (e2 dSub (e2 dMod (eB dInt1 (aCons (e2 dDiv (eCall [] 2 m__law_at (aCons (eVar 0) (aCons (e2 dAdd (e2 dAdd (eVar 1) (eC (.int 4))) (e2 dMul (eC (.int 6)) (eVar 4))) (aNil)))) (e2 dAdd (eC (.int 1)) (e2 dMul (eC (.int 9)) (eVar 9)))) (aNil))) (eC (.int 9))) (eC (.int 4)))) (sSeq (sSet [] 11 (e2 dMod (eB dInt1 (aCons (e2 dDiv (eCall [] 2 m__law_at (aCons (eVar 0) (aCons (e2 dAdd (e2 dAdd (eVar 1) (eC (.int 5))) (e2 dMul (eC (.int 6)) (eVar 4))) (aNil)))) (e2 dAdd (eC (.int 1)) (e2 dMul (eC (.int 7)) (eVar 9)))) (aNil))) (eC (.int 7)))) (sEx (eMl [] 8 mAppend (aCons (eTup [] (aCons (e2 dAdd (eVar 6) (eVar 10)) (aCons (e2 dAdd (e2 dAdd (e2 dAdd (eVar 6) (eVar 10)) (eVar 11)) (e2 dMul (e2 dSub (eVar 7) (eVar 6)) (e2 dMod (eB dInt1 (aCons (e2 dDiv (eVar 5) (eC (.int 6))) (aNil))) (eC (.int 2))))) (aNil)))) (aNil)))))
def b__law_strike_f2 : Sx := sSeq (sSet [] 5 (eB dInt1 (aCons (eCall [] 2 m__law_at (aCons (eVar 0) (aCons (e2 dAdd (e2 dAdd (eVar 1) (eC (.int 1))) (e2 dMul (eC (.int 6)) (eVar 4))) (aNil)))) (aNil)))) (sSeq (sSet [] 6 (e2 dSub (e2 dMod (eB dInt1 (aCons (eCall [] 2 m__law_at (aCons (eVar 0) (aCons (e2 dAdd (e2 dAdd (eVar 1) (eC (.int 2))) (e2 dMul (eC (.int 6)) (eVar 4))) (aNil)))) (aNil))) (eC (.int 61))) (eC (.int 20)))) (sSeq (sSet [] 7 (e2 dAdd (eVar 6) (e2 dMod (eB dInt1 (aCons (eCall [] 2 m__law_at (aCons (eVar 0) (aCons (e2 dAdd (e2 dAdd (eVar 1) (eC (.int 3))) (e2 dMul (eC (.int 6)) (eVar 4))) (aNil)))) (aNil))) (eC (.int 13))))) (sSeq (sSet [] 8 (eLst [] (aCons (eTup [] (aCons (eVar 6) (aCons (eVar 7) (aNil)))) (aNil)))) (sSeq (sFor (iRg1 (aCons (e2 dIx (eLst [] (aCons (eC (.int 0)) (aCons (eC (.int 0)) (aCons (eC (.int 1)) (aCons (eC (.int 1)) (aCons (eC (.int 2)) (aCons (eC (.int 3)) (aNil)))))))) (e2 dMod (eB dInt1 (aCons (eVar 5) (aNil))) (eC (.int 6)))) (aNil))) (gNm [] 9) b__law_strike_f1) (sEx (eMl [] 3 mAppend (aCons (eTup [] (aCons (e2 dIx (eLst [] (aCons (eC (.int 1)) (aCons (eC (.int 1)) (aCons (e1 dNeg (eC (.int 1))) (aNil))))) (e2 dMod (eB dInt1 (aCons (e2 dDiv (eVar 5) (eC (.int 12))) (aNil))) (eC (.int 3)))) (aCons (eVar 8) (aNil)))) (aNil))))))))
def b__law_strike : Sx := sSeq (sSet [] 2 (e2 dIx (eLst [] (aCons (eC (.int 1)) (aCons (eC (.int 2)) (aCons (eC (.int 3)) (aCons (eC (.int 12)) (aCons (eC (.int 60)) (aCons (eC (.int 997)) (aCons (eC (.int 1000)) (aNil))))))))) (e2 dMod (eB dInt1 (aCons (eCall [] 2 m__law_at (aCons (eVar 0) (aCons (eVar 1) (aNil)))) (aNil))) (eC (.int 7))))) (sSeq (sSet [] 3 (eLst [] (aNil))) (sSeq (sFor (iRg1 (aCons (e2 dAdd (eC (.int 1)) (e2 dMod (eB dInt1 (aCons (e2 dDiv (eCall [] 2 m__law_at (aCons (eVar 0) (aCons (eVar 1) (aNil)))) (eC (.int 7))) (aNil))) (eC (.int 6)))) (aNil))) (gNm [] 4) b__law_strike_f2) (sRet [] (eTup [] (aCons (eVar 3) (aCons (eVar 2) (aNil)))))))
def m__law_strike : Fn := runF 10 b__law_strike
def b__law_meet_c1 : Ex := e2 dIx (eVar 1) (eC (.int 1))
def b__law_meet_c2 : Ex := e2 dIx (eVar 1) (eC (.int 0))
def b__law_meet : Sx := sRet [] (eTup [] (aCons (eB dMax1 (aCons (eLc [] [1] (iVal [] (eVar 0)) (gNm [] 1) (tsNo) b__law_meet_c2) (aNil))) (aCons (eB dMin1 (aCons (eLc [] [1] (iVal [] (eVar 0)) (gNm [] 1) (tsNo) b__law_meet_c1) (aNil))) (aNil))))
def m__law_meet : Fn := runF 1 b__law_meet
def b__law_ends_f1 : Sx := sSeq (sSet [] 4 (eCall [] 1 m__law_meet (aCons (e2 dIx (eVar 3) (eC (.int 1))) (aNil)))) (sIf (t2 dEq (e2 dIx (eVar 3) (eC (.int 0))) (eC (.int 1))) (sSeq (sSet [] 1 (e2 dAdd (eVar 1) (e2 dIx (eVar 4) (eC (.int 0))))) (sSet [] 2 (e2 dAdd (eVar 2) (e2 dIx (eVar 4) (eC (.int 1)))))) (sSeq (sSet [] 1 (e2 dSub (eVar 1) (e2 dIx (eVar 4) (eC (.int 1))))) (sSet [] 2 (e2 dSub (eVar 2) (e2 dIx (eVar 4) (eC (.int 0)))))))
def b__law_ends : Sx := sSeq (sSet [] 1 (eC (.int 0))) (sSeq (sSet [] 2 (eC (.int 0))) (sSeq (sFor (iVal [] (eVar 0)) (gNm [] 3) b__law_ends_f1) (sRet [] (eTup [] (aCons (eVar 1) (aCons (eVar 2) (aNil)))))))
def m__law_ends : Fn := runF 4 b__law_ends
def b__law_total : Sx := sSeq (sSet [] 3 (eCall [] 1 m__law_ends (aCons (eVar 2) (aNil)))) (sSeq (sSet [] 4 (eB dAbs (aCons (e2 dSub (e2 dIx (eVar 3) (eC (.int 1))) (e2 dIx (eVar 3) (eC (.int 0)))) (aNil)))) (sSeq (sSet [] 5 (e2 dAdd (e2 dSub (eB dMin1 (aCons (eVar 3) (aNil))) (eC (.int 6))) (e2 dMod (eB dInt1 (aCons (eCall [] 2 m__law_at (aCons (eVar 0) (aCons (eVar 1) (aNil)))) (aNil))) (e2 dAdd (eVar 4) (eC (.int 13)))))) (sRet [] (eTup [] (aCons (eVar 5) (aCons (e2 dAdd (eVar 5) (e2 dMod (eB dInt1 (aCons (eCall [] 2 m__law_at (aCons (eVar 0) (aCons (e2 dAdd (eVar 1) (eC (.int 1))) (aNil)))) (aNil))) (eC (.int 8)))) (aNil)))))))
def m__law_total : Fn := runF 3 b__law_total
def b__law_ratio_f1 : Sx := sIf (t2 dGt (eVar 3) (eC (.int 0))) (sSeq (sSet [] 5 (e2 dMod (eB dInt1 (aCons (eVar 2) (aNil))) (eVar 3))) (sSeq (sSet [] 2 (eVar 3)) (sSet [] 3 (eVar 5)))) (sNil)
def b__law_ratio : Sx := sSeq (sSet [] 2 (eB dAbs (aCons (eVar 0) (aNil)))) (sSeq (sSet [] 3 (eVar 1)) (sSeq (sFor (iRg1 (aCons (eC (.int 40)) (aNil))) (gNm [] 4) b__law_ratio_f1) (sRet [] (eTup [] (aCons (e2 dDiv (eVar 0) (eVar 2)) (aCons (e2 dDiv (eVar 1) (eVar 2)) (aNil)))))))
def m__law_ratio : Fn := runF 4 b__law_ratio
def b__law_as_reading : Sx := sRet [] (eTup [] (aCons (eCall [] 2 m__law_ratio (aCons (e2 dIx (eVar 0) (eC (.int 0))) (aCons (eVar 1) (aNil)))) (aCons (eCall [] 2 m__law_ratio (aCons (e2 dIx (eVar 0) (eC (.int 1))) (aCons (eVar 1) (aNil)))) (aNil))))
def m__law_as_reading : Fn := runF 0 b__law_as_reading
def b__law_subject_c1 : Ex := eCall [] 2 m__law_as_reading (aCons (eVar 5) (aCons (eVar 2) (aNil)))
def b__law_subject_f2 : Sx := sEx (eMl [] 3 mAppend (aCons (eTup [] (aCons (e2 dIx (eVar 4) (eC (.int 0))) (aCons (eB dTup1 (aCons (eLc [] [5] (iVal [] (e2 dIx (eVar 4) (eC (.int 1)))) (gNm [] 5) (tsNo) b__law_subject_c1) (aNil))) (aNil)))) (aNil)))
def b__law_subject : Sx := sSeq (sSet [] 3 (eLst [] (aNil))) (sSeq (sFor (iVal [] (eVar 0)) (gNm [] 4) b__law_subject_f2) (sRet [] (eTup [] (aCons (eB dTup1 (aCons (eVar 3) (aNil))) (aCons (eCall [] 2 m__law_as_reading (aCons (eVar 1) (aCons (eVar 2) (aNil)))) (aNil))))))
def m__law_subject : Fn := runF 3 b__law_subject
def b__law_apart_c1 : Ex := e2 dIx (eVar 5) (eC (.int 1))
def b__law_apart_c2 : Ex := e2 dIx (eVar 5) (eC (.int 0))
def b__law_apart_f3 : Sx := sSeq (sSet [] 2 (eCall [] 1 m__law_meet (aCons (e2 dIx (e2 dIx (eVar 0) (eVar 1)) (eC (.int 1))) (aNil)))) (sIf (t2 dGt (e2 dIx (eVar 2) (eC (.int 0))) (e2 dIx (eVar 2) (eC (.int 1)))) (sSeq (sSet [] 3 (eLc [] [5] (iVal [] (e2 dIx (e2 dIx (eVar 0) (eVar 1)) (eC (.int 1)))) (gNm [] 5) (tsNo) b__law_apart_c1)) (sSeq (sSet [] 4 (eLc [] [5] (iVal [] (e2 dIx (e2 dIx (eVar 0) (eVar 1)) (eC (.int 1)))) (gNm [] 5) (tsNo) b__law_apart_c2)) (sRet [] (eTup [] (aCons (eC (.str "apart")) (aCons (eVar 1) (aCons (eMl [] 3 mIndex (aCons (e2 dIx (eVar 2) (eC (.int 1))) (aNil))) (aCons (eMl [] 4 mIndex (aCons (e2 dIx (eVar 2) (eC (.int 0))) (aNil))) (aNil))))))))) (sNil))
def b__law_apart : Sx := sSeq (sFor (iRg1 (aCons (eB dLen1 (aCons (eVar 0) (aNil))) (aNil))) (gNm [] 1) b__law_apart_f3) (sRet [] (eC .non))
def m__law_apart : Fn := runF 5 b__law_apart
def b__law_values_f1 : Sx := sSeq (sSet [] 7 (eCall [] 1 m__law_meet (aCons (e2 dIx (e2 dIx (eVar 0) (eVar 5)) (eC (.int 1))) (aNil)))) (sIf (t2 dEq (eVar 5) (eVar 2)) (sEx (eMl [] 4 mAppend (aCons (eVar 3) (aNil)))) (sIf (t2 dEq (e2 dIx (e2 dIx (eVar 0) (eVar 5)) (eC (.int 0))) (eC (.int 1))) (sEx (eMl [] 4 mAppend (aCons (e2 dIx (eVar 7) (eC (.int 0))) (aNil)))) (sEx (eMl [] 4 mAppend (aCons (e2 dIx (eVar 7) (eC (.int 1))) (aNil))))))
def b__law_values_c2 : Ex := e2 dMul (e2 dIx (e2 dIx (eVar 0) (eVar 5)) (eC (.int 0))) (e2 dIx (eVar 4) (eVar 5))
def b__law_values_f3 : Sx := sSeq (sSet [] 7 (eCall [] 1 m__law_meet (aCons (e2 dIx (e2 dIx (eVar 0) (eVar 5)) (eC (.int 1))) (aNil)))) (sIf (tAnd (t2 dNe (eVar 5) (eVar 2)) (t2 dGt (eVar 6) (eC (.int 0)))) (sSeq (sSet [] 8 (eB dMin (aCons (eVar 6) (aCons (e2 dSub (e2 dIx (eVar 7) (eC (.int 1))) (e2 dIx (eVar 7) (eC (.int 0)))) (aNil))))) (sSeq (sAsg [] (e2 dAdd (e2 dIx (eVar 4) (eVar 5)) (e2 dMul (e2 dIx (e2 dIx (eVar 0) (eVar 5)) (eC (.int 0))) (eVar 8))) (gSb 4 (eVar 5))) (sSet [] 6 (e2 dSub (eVar 6) (eVar 8))))) (sNil))
def b__law_values : Sx := sSeq (sSet [] 4 (eLst [] (aNil))) (sSeq (sFor (iRg1 (aCons (eB dLen1 (aCons (eVar 0) (aNil))) (aNil))) (gNm [] 5) b__law_values_f1) (sSeq (sSet [] 6 (e2 dSub (eVar 1) (eB dSum (aCons (eLc [] [5] (iRg1 (aCons (eB dLen1 (aCons (eVar 0) (aNil))) (aNil))) (gNm [] 5) (tsNo) b__law_values_c2) (aNil))))) (sSeq (sFor (iRg1 (aCons (eB dLen1 (aCons (eVar 0) (aNil))) (aNil))) (gNm [] 5) b__law_values_f3) (sRet [] (eVar 4)))))
def m__law_values : Fn := runF 5 b__law_values
def b__law_due_c1 : Ex := eCall [] 2 m__law_ratio (aCons (eVar 5) (aCons (eVar 2) (aNil)))
def b__law_due : Sx := sSeq (sSet [] 3 (eCall [] 1 m__law_apart (aCons (eVar 0) (aNil)))) (sSeq (sIf (t2 dIsNot (eVar 3) (eC .non)) (sRet [] (eTup [] (aCons (eC (.str "no")) (aCons (eVar 3) (aNil))))) (sNil)) (sSeq (sSet [] 4 (eCall [] 1 m__law_ends (aCons (eVar 0) (aNil)))) (sSeq (sIf (t2 dGt (e2 dIx (eVar 4) (eC (.int 0))) (e2 dIx (eVar 1) (eC (.int 1)))) (sRet [] (eTup [] (aCons (eC (.str "no")) (aCons (eTup [] (aCons (eC (.str "over")) (aCons (eCall [] 2 m__law_ratio (aCons (e2 dSub (e2 dIx (eVar 4) (eC (.int 0))) (e2 dIx (eVar 1) (eC (.int 1)))) (aCons (eVar 2) (aNil)))) (aNil)))) (aNil))))) (sNil)) (sSeq (sIf (t2 dLt (e2 dIx (eVar 4) (eC (.int 1))) (e2 dIx (eVar 1) (eC (.int 0)))) (sRet [] (eTup [] (aCons (eC (.str "no")) (aCons (eTup [] (aCons (eC (.str "under")) (aCons (eCall [] 2 m__law_ratio (aCons (e2 dSub (e2 dIx (eVar 1) (eC (.int 0))) (e2 dIx (eVar 4) (eC (.int 1)))) (aCons (eVar 2) (aNil)))) (aNil)))) (aNil))))) (sNil)) (sRet [] (eTup [] (aCons (eC (.str "yes")) (aCons (eB dTup1 (aCons (eLc [] [5] (iVal [] (eCall [] 4 m__law_values (aCons (eVar 0) (aCons (e2 dIx (eVar 1) (eC (.int 0))) (aCons (e1 dNeg (eC (.int 1))) (aCons (eC (.int 0)) (aNil))))))) (gNm [] 5) (tsNo) b__law_due_c1) (aNil))) (aNil)))))))))
def m__law_due : Fn := runF 3 b__law_due
def b_is_tuple_of : Sx := sRet [] (eAnd (bE (tIsi (isT .tuple) (eVar 0))) (bE (tCh dLe dLe (eVar 1) (eB dLen1 (aCons (eVar 0) (aNil))) (eVar 2))))
def m_is_tuple_of : Fn := runF 0 b_is_tuple_of
def b_is_whole : Sx := sRet [] (eAnd (bE (tIsi (isT .int) (eVar 0))) (eNot (bE (tIsi (isT .bool) (eVar 0)))))
def m_is_whole : Fn := runF 0 b_is_whole
def b_is_ratio : Sx := sSeq (sIf (tNot (tTru (eCall [] 3 m_is_tuple_of (aCons (eVar 0) (aCons (eC (.int 2)) (aCons (eC (.int 2)) (aNil))))))) (sRet [] (eC (.bl false))) (sNil)) (sSeq (sIf (tOr (tNot (tTru (eCall [] 1 m_is_whole (aCons (e2 dIx (eVar 0) (eC (.int 0))) (aNil))))) (tOr (tNot (tTru (eCall [] 1 m_is_whole (aCons (e2 dIx (eVar 0) (eC (.int 1))) (aNil))))) (t2 dLt (e2 dIx (eVar 0) (eC (.int 1))) (eC (.int 1))))) (sRet [] (eC (.bl false))) (sNil)) (sRet [] (bE (t2 dEq (eB dGcd (aCons (e2 dIx (eVar 0) (eC (.int 0))) (aCons (e2 dIx (eVar 0) (eC (.int 1))) (aNil)))) (eC (.int 1))))))
def m_is_ratio : Fn := runF 0 b_is_ratio
def b_check_ratio : Sx := sIf (tNot (tTru (eCall [] 1 m_is_ratio (aCons (eVar 0) (aNil))))) (sRaise "BadRatio") (sNil)
def m_check_ratio : Fn := runF 0 b_check_ratio
def b_compare : Sx := sSeq (sEx (eCall [] 1 m_check_ratio (aCons (eVar 0) (aNil)))) (sSeq (sEx (eCall [] 1 m_check_ratio (aCons (eVar 1) (aNil)))) (sSeq (sSet [] 2 (e2 dMul (e2 dIx (eVar 0) (eC (.int 0))) (e2 dIx (eVar 1) (eC (.int 1))))) (sSeq (sSet [] 3 (e2 dMul (e2 dIx (eVar 1) (eC (.int 0))) (e2 dIx (eVar 0) (eC (.int 1))))) (sSeq (sIf (t2 dLt (eVar 2) (eVar 3)) (sRet [] (e1 dNeg (eC (.int 1)))) (sNil)) (sSeq (sIf (t2 dGt (eVar 2) (eVar 3)) (sRet [] (eC (.int 1))) (sNil)) (sRet [] (eC (.int 0))))))))
def m_compare : Fn := runF 2 b_compare
def b_is_small_ratio : Sx := sSeq (sIf (tNot (tTru (eCall [] 1 m_is_ratio (aCons (eVar 0) (aNil))))) (sRet [] (eC (.bl false))) (sNil)) (sRet [] (eAnd (bE (tCh dLe dLe (e1 dNeg (eC c_GREATEST_TOP)) (e2 dIx (eVar 0) (eC (.int 0))) (eC c_GREATEST_TOP))) (bE (t2 dLe (e2 dIx (eVar 0) (eC (.int 1))) (eC c_GREATEST_BOTTOM)))))
def m_is_small_ratio : Fn := runF 0 b_is_small_ratio
def b_is_reading : Sx := sSeq (sIf (tNot (tTru (eCall [] 3 m_is_tuple_of (aCons (eVar 0) (aCons (eC (.int 2)) (aCons (eC (.int 2)) (aNil))))))) (sRet [] (eC (.bl false))) (sNil)) (sSeq (sIf (tOr (tNot (tTru (eCall [] 1 m_is_small_ratio (aCons (e2 dIx (eVar 0) (eC (.int 0))) (aNil))))) (tNot (tTru (eCall [] 1 m_is_small_ratio (aCons (e2 dIx (eVar 0) (eC (.int 1))) (aNil)))))) (sRet [] (eC (.bl false))) (sNil)) (sRet [] (bE (t2 dLe (eCall [] 2 m_compare (aCons (e2 dIx (eVar 0) (eC (.int 0))) (aCons (e2 dIx (eVar 0) (eC (.int 1))) (aNil)))) (eC (.int 0))))))
def m_is_reading : Fn := runF 0 b_is_reading
def b_are_readings_c1 : Ex := eCall [] 1 m_is_reading (aCons (eVar 1) (aNil))
def b_are_readings : Sx := sSeq (sIf (tNot (tTru (eCall [] 3 m_is_tuple_of (aCons (eVar 0) (aCons (eC (.int 1)) (aCons (eC c_MOST_READINGS) (aNil))))))) (sRet [] (eC (.bl false))) (sNil)) (sRet [] (eB dAll (aCons (eLc [] [1] (iVal [] (eVar 0)) (gNm [] 1) (tsNo) b_are_readings_c1) (aNil))))
def m_are_readings : Fn := runF 1 b_are_readings
def b_is_term : Sx := sSeq (sIf (tOr (tNot (tTru (eCall [] 3 m_is_tuple_of (aCons (eVar 0) (aCons (eC (.int 2)) (aCons (eC (.int 2)) (aNil))))))) (tNot (tTru (eCall [] 1 m_is_whole (aCons (e2 dIx (eVar 0) (eC (.int 0))) (aNil)))))) (sRet [] (eC (.bl false))) (sNil)) (sRet [] (eAnd (bE (t2 dIn (e2 dIx (eVar 0) (eC (.int 0))) (eTup [] (aCons (eC (.int 1)) (aCons (e1 dNeg (eC (.int 1))) (aNil)))))) (eCall [] 1 m_are_readings (aCons (e2 dIx (eVar 0) (eC (.int 1))) (aNil)))))
def m_is_term : Fn := runF 0 b_is_term
def b_check_strike_c1 : Ex := eCall [] 1 m_is_term (aCons (eVar 1) (aNil))
def b_check_strike : Sx := sSeq (sIf (tNot (tTru (eCall [] 3 m_is_tuple_of (aCons (eVar 0) (aCons (eC (.int 2)) (aCons (eC (.int 2)) (aNil))))))) (sRaise "BadStrike") (sNil)) (sSeq (sIf (tNot (tTru (eCall [] 3 m_is_tuple_of (aCons (e2 dIx (eVar 0) (eC (.int 0))) (aCons (eC (.int 1)) (aCons (eC c_MOST_TERMS) (aNil))))))) (sRaise "BadStrike") (sNil)) (sSeq (sIf (tNot (tTru (eB dAll (aCons (eLc [] [1] (iVal [] (e2 dIx (eVar 0) (eC (.int 0)))) (gNm [] 1) (tsNo) b_check_strike_c1) (aNil))))) (sRaise "BadStrike") (sNil)) (sIf (tNot (tTru (eCall [] 1 m_is_reading (aCons (e2 dIx (eVar 0) (eC (.int 1))) (aNil))))) (sRaise "BadStrike") (sNil))))
def m_check_strike : Fn := runF 1 b_check_strike
def b_ratio : Sx := sSeq (sIf (tOr (tNot (tTru (eCall [] 1 m_is_whole (aCons (eVar 0) (aNil))))) (tNot (tTru (eCall [] 1 m_is_whole (aCons (eVar 1) (aNil)))))) (sRaise "BadRatio") (sNil)) (sSeq (sIf (t2 dEq (eVar 1) (eC (.int 0))) (sRaise "BadRatio") (sNil)) (sSeq (sSet [] 2 (eB dGcd (aCons (eVar 0) (aCons (eVar 1) (aNil))))) (sSeq (sIf (t2 dLt (eVar 1) (eC (.int 0))) (sSet [] 2 (e1 dNeg (eVar 2))) (sNil)) (sRet [] (eTup [] (aCons (e2 dDiv (eVar 0) (eVar 2)) (aCons (e2 dDiv (eVar 1) (eVar 2)) (aNil))))))))
def m_ratio : Fn := runF 1 b_ratio
def b_plus : Sx := sSeq (sEx (eCall [] 1 m_check_ratio (aCons (eVar 0) (aNil)))) (sSeq (sEx (eCall [] 1 m_check_ratio (aCons (eVar 1) (aNil)))) (sRet [] (eCall [] 2 m_ratio (aCons (e2 dAdd (e2 dMul (e2 dIx (eVar 0) (eC (.int 0))) (e2 dIx (eVar 1) (eC (.int 1)))) (e2 dMul (e2 dIx (eVar 1) (eC (.int 0))) (e2 dIx (eVar 0) (eC (.int 1))))) (aCons (e2 dMul (e2 dIx (eVar 0) (eC (.int 1))) (e2 dIx (eVar 1) (eC (.int 1)))) (aNil))))))
def m_plus : Fn := runF 0 b_plus
def b_total_f1 : Sx := sEx (eCall [] 1 m_check_ratio (aCons (eVar 1) (aNil)))
def b_total_f2 : Sx := sSet [] 2 (eCall [] 2 m_plus (aCons (eVar 2) (aCons (eVar 1) (aNil))))
def b_total : Sx := sSeq (sIf (tNot (tIsi (isT .tuple) (eVar 0))) (sRaise "BadRatio") (sNil)) (sSeq (sFor (iVal [] (eVar 0)) (gNm [] 1) b_total_f1) (sSeq (sSet [] 2 (eTup [] (aCons (eC (.int 0)) (aCons (eC (.int 1)) (aNil))))) (sSeq (sFor (iVal [] (eVar 0)) (gNm [] 1) b_total_f2) (sRet [] (eVar 2)))))
def m_total : Fn := runF 2 b_total
def b_sums_c1 : Ex := eVar 3
def b_sums_c2 : Ex := eVar 1
def b_sums : Sx := sRet [] (eTup [] (aCons (eCall [] 1 m_total (aCons (eB dTup1 (aCons (eLc [] [1, 2] (iVal [] (eVar 0)) (gTp 2 (gsCons (gNm [] 1) (gsCons (gNm [] 2) (gsNil)))) (tsNo) b_sums_c2) (aNil))) (aNil))) (aCons (eCall [] 1 m_total (aCons (eB dTup1 (aCons (eLc [] [2, 3] (iVal [] (eVar 0)) (gTp 2 (gsCons (gNm [] 2) (gsCons (gNm [] 3) (gsNil)))) (tsNo) b_sums_c1) (aNil))) (aNil))) (aNil))))
def m_sums : Fn := runF 3 b_sums
def b_is_whole_in : Sx := sRet [] (eAnd (eCall [] 1 m_is_whole (aCons (eVar 0) (aNil))) (bE (tCh dLe dLe (eVar 1) (eVar 0) (eVar 2))))
def m_is_whole_in : Fn := runF 0 b_is_whole_in
def b_names_apart : Sx := sSeq (sIf (tOr (t2 dNe (eB dLen1 (aCons (eVar 1) (aNil))) (eC (.int 4))) (tNot (tTru (eCall [] 3 m_is_whole_in (aCons (e2 dIx (eVar 1) (eC (.int 1))) (aCons (eC (.int 0)) (aCons (e2 dSub (eB dLen1 (aCons (eVar 0) (aNil))) (eC (.int 1))) (aNil)))))))) (sRet [] (eC (.bl false))) (sNil)) (sSeq (sSet [] 2 (e2 dIx (e2 dIx (eVar 0) (e2 dIx (eVar 1) (eC (.int 1)))) (eC (.int 1)))) (sSeq (sSet [] 3 (e2 dIx (eVar 1) (eC (.int 2)))) (sSeq (sSet [] 4 (e2 dIx (eVar 1) (eC (.int 3)))) (sSeq (sIf (tOr (tNot (tTru (eCall [] 3 m_is_whole_in (aCons (eVar 3) (aCons (eC (.int 0)) (aCons (e2 dSub (eB dLen1 (aCons (eVar 2) (aNil))) (eC (.int 1))) (aNil))))))) (tNot (tTru (eCall [] 3 m_is_whole_in (aCons (eVar 4) (aCons (eC (.int 0)) (aCons (e2 dSub (eB dLen1 (aCons (eVar 2) (aNil))) (eC (.int 1))) (aNil)))))))) (sRet [] (eC (.bl false))) (sNil)) (sRet [] (eAnd (bE (t2 dNe (eVar 3) (eVar 4))) (bE (t2 dLt (eCall [] 2 m_compare (aCons (e2 dIx (e2 dIx (eVar 2) (eVar 3)) (eC (.int 1))) (aCons (e2 dIx (e2 dIx (eVar 2) (eVar 4)) (eC (.int 0))) (aNil)))) (eC (.int 0))))))))))
def m_names_apart : Fn := runF 3 b_names_apart
def b_larger : Sx := sSeq (sIf (t2 dGe (eCall [] 2 m_compare (aCons (eVar 0) (aCons (eVar 1) (aNil)))) (eC (.int 0))) (sRet [] (eVar 0)) (sNil)) (sRet [] (eVar 1))
def m_larger : Fn := runF 0 b_larger
def b_greatest_low_f1 : Sx := sSet [] 1 (eCall [] 2 m_larger (aCons (eVar 1) (aCons (eVar 2) (aNil))))
def b_greatest_low : Sx := sSeq (sSet [] 1 (e2 dIx (e2 dIx (eVar 0) (eC (.int 0))) (eC (.int 0)))) (sSeq (sFor (iVal [] (eVar 0)) (gTp 2 (gsCons (gNm [] 2) (gsCons (gNm [] 3) (gsNil)))) b_greatest_low_f1) (sRet [] (eVar 1)))
def m_greatest_low : Fn := runF 3 b_greatest_low
def b_lesser : Sx := sSeq (sIf (t2 dLe (eCall [] 2 m_compare (aCons (eVar 0) (aCons (eVar 1) (aNil)))) (eC (.int 0))) (sRet [] (eVar 0)) (sNil)) (sRet [] (eVar 1))
def m_lesser : Fn := runF 0 b_lesser
def b_least_high_f1 : Sx := sSet [] 1 (eCall [] 2 m_lesser (aCons (eVar 1) (aCons (eVar 3) (aNil))))
def b_least_high : Sx := sSeq (sSet [] 1 (e2 dIx (e2 dIx (eVar 0) (eC (.int 0))) (eC (.int 1)))) (sSeq (sFor (iVal [] (eVar 0)) (gTp 2 (gsCons (gNm [] 2) (gsCons (gNm [] 3) (gsNil)))) b_least_high_f1) (sRet [] (eVar 1)))
def m_least_high : Fn := runF 3 b_least_high
def b_are_apart : Sx := sRet [] (bE (t2 dGt (eCall [] 2 m_compare (aCons (eCall [] 1 m_greatest_low (aCons (eVar 0) (aNil))) (aCons (eCall [] 1 m_least_high (aCons (eVar 0) (aNil))) (aNil)))) (eC (.int 0))))
def m_are_apart : Fn := runF 0 b_are_apart
def b_any_apart_c1 : Ex := eCall [] 1 m_are_apart (aCons (eVar 2) (aNil))
def b_any_apart : Sx := sRet [] (eB dAny (aCons (eLc [] [1, 2] (iVal [] (eVar 0)) (gTp 2 (gsCons (gNm [] 1) (gsCons (gNm [] 2) (gsNil)))) (tsNo) b_any_apart_c1) (aNil)))
def m_any_apart : Fn := runF 2 b_any_apart
def b_minus : Sx := sSeq (sEx (eCall [] 1 m_check_ratio (aCons (eVar 0) (aNil)))) (sSeq (sEx (eCall [] 1 m_check_ratio (aCons (eVar 1) (aNil)))) (sRet [] (eCall [] 2 m_ratio (aCons (e2 dSub (e2 dMul (e2 dIx (eVar 0) (eC (.int 0))) (e2 dIx (eVar 1) (eC (.int 1)))) (e2 dMul (e2 dIx (eVar 1) (eC (.int 0))) (e2 dIx (eVar 0) (eC (.int 1))))) (aCons (e2 dMul (e2 dIx (eVar 0) (eC (.int 1))) (e2 dIx (eVar 1) (eC (.int 1)))) (aNil))))))
def m_minus : Fn := runF 0 b_minus
def b_signed_bounds_f1 : Sx := sSeq (sSet [] 4 (eCall [] 1 m_greatest_low (aCons (eVar 3) (aNil)))) (sSeq (sSet [] 5 (eCall [] 1 m_least_high (aCons (eVar 3) (aNil)))) (sIf (t2 dEq (eVar 2) (eC (.int 1))) (sEx (eMl [] 1 mAppend (aCons (eTup [] (aCons (eVar 4) (aCons (eVar 5) (aNil)))) (aNil)))) (sEx (eMl [] 1 mAppend (aCons (eTup [] (aCons (eCall [] 2 m_minus (aCons (eC c_ZERO) (aCons (eVar 5) (aNil)))) (aCons (eCall [] 2 m_minus (aCons (eC c_ZERO) (aCons (eVar 4) (aNil)))) (aNil)))) (aNil))))))
def b_signed_bounds : Sx := sSeq (sSet [] 1 (eLst [] (aNil))) (sSeq (sFor (iVal [] (eVar 0)) (gTp 2 (gsCons (gNm [] 2) (gsCons (gNm [] 3) (gsNil)))) b_signed_bounds_f1) (sRet [] (eB dTup1 (aCons (eVar 1) (aNil)))))
def m_signed_bounds : Fn := runF 5 b_signed_bounds
def b_is_unsound : Sx := sSeq (sIf (tOr (tNot (tTru (eCall [] 3 m_is_tuple_of (aCons (eVar 1) (aCons (eC (.int 2)) (aCons (eC (.int 4)) (aNil))))))) (tNot (tIsi (isT .str) (e2 dIx (eVar 1) (eC (.int 0)))))) (sRet [] (eC (.bl false))) (sNil)) (sSeq (sAsg [] (eVar 0) (gTp 2 (gsCons (gNm [] 2) (gsCons (gTp 2 (gsCons (gNm [] 5) (gsCons (gNm [] 6) (gsNil)))) (gsNil))))) (sSeq (sIf (t2 dEq (e2 dIx (eVar 1) (eC (.int 0))) (eC (.str "apart"))) (sRet [] (eCall [] 2 m_names_apart (aCons (eVar 2) (aCons (eVar 1) (aNil))))) (sNil)) (sSeq (sIf (tOr (t2 dNe (eB dLen1 (aCons (eVar 1) (aNil))) (eC (.int 2))) (tOr (tNot (tTru (eCall [] 1 m_is_ratio (aCons (e2 dIx (eVar 1) (eC (.int 1))) (aNil))))) (tOr (t2 dLe (eCall [] 2 m_compare (aCons (e2 dIx (eVar 1) (eC (.int 1))) (aCons (eC c_ZERO) (aNil)))) (eC (.int 0))) (tTru (eCall [] 1 m_any_apart (aCons (eVar 2) (aNil))))))) (sRet [] (eC (.bl false))) (sNil)) (sSeq (sAsg [] (eCall [] 1 m_sums (aCons (eCall [] 1 m_signed_bounds (aCons (eVar 2) (aNil))) (aNil))) (gTp 2 (gsCons (gNm [] 3) (gsCons (gNm [] 4) (gsNil))))) (sSeq (sIf (t2 dEq (e2 dIx (eVar 1) (eC (.int 0))) (eC (.str "over"))) (sRet [] (bE (t2 dEq (eCall [] 2 m_compare (aCons (e2 dIx (eVar 1) (eC (.int 1))) (aCons (eCall [] 2 m_minus (aCons (eVar 3) (aCons (eVar 6) (aNil)))) (aNil)))) (eC (.int 0))))) (sNil)) (sRet [] (eAnd (bE (t2 dEq (e2 dIx (eVar 1) (eC (.int 0))) (eC (.str "under")))) (bE (t2 dEq (eCall [] 2 m_compare (aCons (e2 dIx (eVar 1) (eC (.int 1))) (aCons (eCall [] 2 m_minus (aCons (eVar 5) (aCons (eVar 4) (aNil)))) (aNil)))) (eC (.int 0)))))))))))
def m_is_unsound : Fn := runF 5 b_is_unsound
def b_is_answer : Sx := sSeq (sIf (tOr (tNot (tTru (eCall [] 3 m_is_tuple_of (aCons (eVar 0) (aCons (eC (.int 2)) (aCons (eC (.int 2)) (aNil))))))) (tNot (tIsi (isT .str) (e2 dIx (eVar 0) (eC (.int 0)))))) (sRet [] (eC (.bl false))) (sNil)) (sRet [] (eOr (bE (t2 dEq (e2 dIx (eVar 0) (eC (.int 0))) (eC (.str "yes")))) (bE (t2 dEq (e2 dIx (eVar 0) (eC (.int 0))) (eC (.str "no"))))))
def m_is_answer : Fn := runF 0 b_is_answer
def b_lies_in : Sx := sRet [] (eAnd (bE (t2 dLe (eCall [] 2 m_compare (aCons (e2 dIx (eVar 1) (eC (.int 0))) (aCons (eVar 0) (aNil)))) (eC (.int 0)))) (bE (t2 dLe (eCall [] 2 m_compare (aCons (eVar 0) (aCons (e2 dIx (eVar 1) (eC (.int 1))) (aNil)))) (eC (.int 0)))))
def m_lies_in : Fn := runF 0 b_lies_in
def b_times : Sx := sSeq (sEx (eCall [] 1 m_check_ratio (aCons (eVar 0) (aNil)))) (sSeq (sEx (eCall [] 1 m_check_ratio (aCons (eVar 1) (aNil)))) (sRet [] (eCall [] 2 m_ratio (aCons (e2 dMul (e2 dIx (eVar 0) (eC (.int 0))) (e2 dIx (eVar 1) (eC (.int 0)))) (aCons (e2 dMul (e2 dIx (eVar 0) (eC (.int 1))) (e2 dIx (eVar 1) (eC (.int 1)))) (aNil))))))
def m_times : Fn := runF 0 b_times
def b_with_signs_c1 : Ex := eCall [] 2 m_times (aCons (eTup [] (aCons (e2 dIx (eVar 2) (eC (.int 0))) (aCons (eC (.int 1)) (aNil)))) (aCons (eVar 3) (aNil)))
def b_with_signs : Sx := sRet [] (eB dTup1 (aCons (eLc [] [2, 3] (iZp [] (aCons (eVar 0) (aCons (eVar 1) (aNil)))) (gTp 2 (gsCons (gNm [] 2) (gsCons (gNm [] 3) (gsNil)))) (tsNo) b_with_signs_c1) (aNil)))
def m_with_signs : Fn := runF 2 b_with_signs
def b_are_measures_c1 : Ex := eCall [] 1 m_is_ratio (aCons (eVar 6) (aNil))
def b_are_measures_c2 : Ex := eCall [] 2 m_lies_in (aCons (eVar 3) (aCons (eVar 7) (aNil)))
def b_are_measures_f3 : Sx := sIf (tNot (tTru (eB dAll (aCons (eLc [] [7] (iVal [] (eVar 5)) (gNm [] 7) (tsNo) b_are_measures_c2) (aNil))))) (sRet [] (eC (.bl false))) (sNil)
def b_are_measures : Sx := sSeq (sSet [] 2 (e2 dIx (eVar 0) (eC (.int 0)))) (sSeq (sIf (tOr (tNot (tTru (eCall [] 3 m_is_tuple_of (aCons (eVar 1) (aCons (eB dLen1 (aCons (eVar 2) (aNil))) (aCons (eB dLen1 (aCons (eVar 2) (aNil))) (aNil))))))) (tNot (tTru (eB dAll (aCons (eLc [] [6] (iVal [] (eVar 1)) (gNm [] 6) (tsNo) b_are_measures_c1) (aNil)))))) (sRet [] (eC (.bl false))) (sNil)) (sSeq (sFor (iZp [] (aCons (eVar 2) (aCons (eVar 1) (aNil)))) (gTp 2 (gsCons (gTp 2 (gsCons (gNm [] 4) (gsCons (gNm [] 5) (gsNil)))) (gsCons (gNm [] 3) (gsNil)))) b_are_measures_f3) (sRet [] (eCall [] 2 m_lies_in (aCons (eCall [] 1 m_total (aCons (eCall [] 2 m_with_signs (aCons (eVar 2) (aCons (eVar 1) (aNil)))) (aNil))) (aCons (e2 dIx (eVar 0) (eC (.int 1))) (aNil)))))))
def m_are_measures : Fn := runF 6 b_are_measures
def b_upholds_strike : Sx := sSeq (sEx (eCall [] 1 m_check_strike (aCons (eVar 0) (aNil)))) (sSeq (sIf (tNot (tTru (eCall [] 1 m_is_answer (aCons (eVar 1) (aNil))))) (sRet [] (eC (.bl false))) (sNil)) (sSeq (sIf (t2 dEq (e2 dIx (eVar 1) (eC (.int 0))) (eC (.str "yes"))) (sRet [] (eCall [] 2 m_are_measures (aCons (eVar 0) (aCons (e2 dIx (eVar 1) (eC (.int 1))) (aNil))))) (sNil)) (sRet [] (eCall [] 2 m_is_unsound (aCons (eVar 0) (aCons (e2 dIx (eVar 1) (eC (.int 1))) (aNil)))))))
def m_upholds_strike : Fn := runF 0 b_upholds_strike
def b__law_is_whole : Sx := sRet [] (eAnd (bE (tIsi (isT .int) (eVar 0))) (eNot (bE (tIsi (isT .bool) (eVar 0)))))
def m__law_is_whole : Fn := runF 0 b__law_is_whole
def b__law_parts : Sx := sSeq (sIf (tOr (tNot (tIsi (isT .tuple) (eVar 0))) (tOr (t2 dNe (eB dLen1 (aCons (eVar 0) (aNil))) (eC (.int 2))) (tOr (tNot (tTru (eCall [] 1 m__law_is_whole (aCons (e2 dIx (eVar 0) (eC (.int 0))) (aNil))))) (tNot (tTru (eCall [] 1 m__law_is_whole (aCons (e2 dIx (eVar 0) (eC (.int 1))) (aNil)))))))) (sRet [] (eC .non)) (sNil)) (sSeq (sIf (tOr (t2 dLt (e2 dIx (eVar 0) (eC (.int 1))) (eC (.int 1))) (t2 dNe (e2 dMod (eB dInt1 (aCons (e2 dMul (eVar 1) (eC (.int 60))) (aNil))) (e2 dIx (eVar 0) (eC (.int 1)))) (eC (.int 0)))) (sRet [] (eC .non)) (sNil)) (sSeq (sSet [] 2 (e2 dMul (e2 dIx (eVar 0) (eC (.int 0))) (e2 dDiv (e2 dMul (eVar 1) (eC (.int 60))) (e2 dIx (eVar 0) (eC (.int 1)))))) (sSeq (sIf (t2 dNe (eCall [] 2 m__law_ratio (aCons (eVar 2) (aCons (e2 dMul (eVar 1) (eC (.int 60))) (aNil)))) (eVar 0)) (sRet [] (eC .non)) (sNil)) (sRet [] (eVar 2)))))
def m__law_parts : Fn := runF 1 b__law_parts
def b__law_yes_f1 : Sx := sSeq (sSet [] 6 (eCall [] 2 m__law_parts (aCons (e2 dIx (eVar 3) (eVar 5)) (aCons (eVar 2) (aNil))))) (sSeq (sSet [] 7 (eCall [] 1 m__law_meet (aCons (e2 dIx (e2 dIx (eVar 0) (eVar 5)) (eC (.int 1))) (aNil)))) (sSeq (sIf (tOr (t2 dIs (eVar 6) (eC .non)) (tOr (t2 dLt (eVar 6) (e2 dMul (eC (.int 60)) (e2 dIx (eVar 7) (eC (.int 0))))) (t2 dGt (eVar 6) (e2 dMul (eC (.int 60)) (e2 dIx (eVar 7) (eC (.int 1))))))) (sRet [] (eC (.bl false))) (sNil)) (sSet [] 4 (e2 dAdd (eVar 4) (e2 dMul (e2 dIx (e2 dIx (eVar 0) (eVar 5)) (eC (.int 0))) (eVar 6))))))
def b__law_yes : Sx := sSeq (sIf (tOr (tNot (tIsi (isT .tuple) (eVar 3))) (t2 dNe (eB dLen1 (aCons (eVar 3) (aNil))) (eB dLen1 (aCons (eVar 0) (aNil))))) (sRet [] (eC (.bl false))) (sNil)) (sSeq (sSet [] 4 (eC (.int 0))) (sSeq (sFor (iRg1 (aCons (eB dLen1 (aCons (eVar 0) (aNil))) (aNil))) (gNm [] 5) b__law_yes_f1) (sRet [] (bE (tCh dLe dLe (e2 dMul (eC (.int 60)) (e2 dIx (eVar 1) (eC (.int 0)))) (eVar 4) (e2 dMul (eC (.int 60)) (e2 dIx (eVar 1) (eC (.int 1)))))))))
def m__law_yes : Fn := runF 4 b__law_yes
def b__law_names_apart_c1 : Ex := eVar 4
def b__law_names_apart_f2 : Sx := sIf (tOr (t2 dLt (eVar 3) (eC (.int 0))) (t2 dGe (eVar 3) (eB dLen1 (aCons (eVar 2) (aNil))))) (sRet [] (eC (.bl false))) (sNil)
def b__law_names_apart : Sx := sSeq (sIf (tOr (t2 dNe (eB dLen1 (aCons (eVar 1) (aNil))) (eC (.int 4))) (t2 dGt (eB dLen1 (aCons (eLc [] [4] (iVal [] (eSl (eVar 1) (pSo (eC (.int 1))) (pNo))) (gNm [] 4) (tNot (tTru (eCall [] 1 m__law_is_whole (aCons (eVar 4) (aNil))))) b__law_names_apart_c1) (aNil))) (eC (.int 0)))) (sRet [] (eC (.bl false))) (sNil)) (sSeq (sIf (tOr (t2 dLt (e2 dIx (eVar 1) (eC (.int 1))) (eC (.int 0))) (t2 dGe (e2 dIx (eVar 1) (eC (.int 1))) (eB dLen1 (aCons (eVar 0) (aNil))))) (sRet [] (eC (.bl false))) (sNil)) (sSeq (sSet [] 2 (e2 dIx (e2 dIx (eVar 0) (e2 dIx (eVar 1) (eC (.int 1)))) (eC (.int 1)))) (sSeq (sFor (iVal [] (eSl (eVar 1) (pSo (eC (.int 2))) (pNo))) (gNm [] 3) b__law_names_apart_f2) (sRet [] (eAnd (bE (t2 dNe (e2 dIx (eVar 1) (eC (.int 2))) (e2 dIx (eVar 1) (eC (.int 3))))) (bE (t2 dLt (e2 dIx (e2 dIx (eVar 2) (e2 dIx (eVar 1) (eC (.int 2)))) (eC (.int 1))) (e2 dIx (e2 dIx (eVar 2) (e2 dIx (eVar 1) (eC (.int 3)))) (eC (.int 0))))))))))
def m__law_names_apart : Fn := runF 3 b__law_names_apart
def b__law_no : Sx := sSeq (sIf (tOr (tNot (tIsi (isT .tuple) (eVar 3))) (tOr (t2 dLt (eB dLen1 (aCons (eVar 3) (aNil))) (eC (.int 2))) (tNot (tIsi (isT .str) (e2 dIx (eVar 3) (eC (.int 0))))))) (sRet [] (eC (.bl false))) (sNil)) (sSeq (sIf (t2 dEq (e2 dIx (eVar 3) (eC (.int 0))) (eC (.str "apart"))) (sRet [] (eCall [] 2 m__law_names_apart (aCons (eVar 0) (aCons (eVar 3) (aNil))))) (sNil)) (sSeq (sIf (tOr (t2 dNe (eB dLen1 (aCons (eVar 3) (aNil))) (eC (.int 2))) (t2 dIsNot (eCall [] 1 m__law_apart (aCons (eVar 0) (aNil))) (eC .non))) (sRet [] (eC (.bl false))) (sNil)) (sSeq (sSet [] 4 (eCall [] 2 m__law_parts (aCons (e2 dIx (eVar 3) (eC (.int 1))) (aCons (eVar 2) (aNil))))) (sSeq (sSet [] 5 (eCall [] 1 m__law_ends (aCons (eVar 0) (aNil)))) (sSeq (sIf (tOr (t2 dIs (eVar 4) (eC .non)) (t2 dLe (eVar 4) (eC (.int 0)))) (sRet [] (eC (.bl false))) (sNil)) (sSeq (sIf (t2 dEq (e2 dIx (eVar 3) (eC (.int 0))) (eC (.str "over"))) (sRet [] (bE (t2 dEq (eVar 4) (e2 dMul (eC (.int 60)) (e2 dSub (e2 dIx (eVar 5) (eC (.int 0))) (e2 dIx (eVar 1) (eC (.int 1)))))))) (sNil)) (sRet [] (eAnd (bE (t2 dEq (e2 dIx (eVar 3) (eC (.int 0))) (eC (.str "under")))) (bE (t2 dEq (eVar 4) (e2 dMul (eC (.int 60)) (e2 dSub (e2 dIx (eVar 1) (eC (.int 0))) (e2 dIx (eVar 5) (eC (.int 1)))))))))))))))
def m__law_no : Fn := runF 2 b__law_no
def b__law_right : Sx := sSeq (sIf (tOr (tNot (tIsi (isT .tuple) (eVar 3))) (tOr (t2 dNe (eB dLen1 (aCons (eVar 3) (aNil))) (eC (.int 2))) (tNot (tIsi (isT .str) (e2 dIx (eVar 3) (eC (.int 0))))))) (sRet [] (eC (.bl false))) (sNil)) (sSeq (sIf (t2 dEq (e2 dIx (eVar 3) (eC (.int 0))) (eC (.str "yes"))) (sRet [] (eCall [] 4 m__law_yes (aCons (eVar 0) (aCons (eVar 1) (aCons (eVar 2) (aCons (e2 dIx (eVar 3) (eC (.int 1))) (aNil))))))) (sNil)) (sRet [] (eAnd (bE (t2 dEq (e2 dIx (eVar 3) (eC (.int 0))) (eC (.str "no")))) (eCall [] 4 m__law_no (aCons (eVar 0) (aCons (eVar 1) (aCons (eVar 2) (aCons (e2 dIx (eVar 3) (eC (.int 1))) (aNil)))))))))
def m__law_right : Fn := runF 0 b__law_right
def b_first_apart_c1 : Ex := eVar 6
def b_first_apart_c2 : Ex := eVar 7
def b_first_apart_f3 : Sx := sIf (tTru (eCall [] 1 m_are_apart (aCons (eVar 3) (aNil)))) (sSeq (sSet [] 4 (eLc [] [2, 6] (iVal [] (eVar 3)) (gTp 2 (gsCons (gNm [] 2) (gsCons (gNm [] 6) (gsNil)))) (tsNo) b_first_apart_c1)) (sSeq (sSet [] 5 (eLc [] [7, 2] (iVal [] (eVar 3)) (gTp 2 (gsCons (gNm [] 7) (gsCons (gNm [] 2) (gsNil)))) (tsNo) b_first_apart_c2)) (sRet [] (eTup [] (aCons (eC (.str "apart")) (aCons (eVar 1) (aCons (eMl [] 4 mIndex (aCons (eCall [] 1 m_least_high (aCons (eVar 3) (aNil))) (aNil))) (aCons (eMl [] 5 mIndex (aCons (eCall [] 1 m_greatest_low (aCons (eVar 3) (aNil))) (aNil))) (aNil))))))))) (sNil)
def b_first_apart : Sx := sSeq (sFor (iEn [] (eVar 0)) (gTp 2 (gsCons (gNm [] 1) (gsCons (gTp 2 (gsCons (gNm [] 2) (gsCons (gNm [] 3) (gsNil)))) (gsNil)))) b_first_apart_f3) (sRet [] (eC .non))
def m_first_apart : Fn := runF 7 b_first_apart
def b_raised_values_f1 : Sx := sSeq (sSet [] 6 (eCall [] 2 m_lesser (aCons (eCall [] 2 m_minus (aCons (eVar 5) (aCons (eVar 4) (aNil)))) (aCons (eVar 2) (aNil))))) (sSeq (sEx (eMl [] 3 mAppend (aCons (eCall [] 2 m_plus (aCons (eVar 4) (aCons (eVar 6) (aNil)))) (aNil)))) (sSet [] 2 (eCall [] 2 m_minus (aCons (eVar 2) (aCons (eVar 6) (aNil))))))
def b_raised_values : Sx := sSeq (sSet [] 2 (eCall [] 2 m_larger (aCons (eCall [] 2 m_minus (aCons (eVar 1) (aCons (e2 dIx (eCall [] 1 m_sums (aCons (eVar 0) (aNil))) (eC (.int 0))) (aNil)))) (aCons (eC c_ZERO) (aNil))))) (sSeq (sSet [] 3 (eLst [] (aNil))) (sSeq (sFor (iVal [] (eVar 0)) (gTp 2 (gsCons (gNm [] 4) (gsCons (gNm [] 5) (gsNil)))) b_raised_values_f1) (sRet [] (eB dTup1 (aCons (eVar 3) (aNil))))))
def m_raised_values : Fn := runF 5 b_raised_values
def b_settle_strike : Sx := sSeq (sEx (eCall [] 1 m_check_strike (aCons (eVar 0) (aNil)))) (sSeq (sAsg [] (eVar 0) (gTp 2 (gsCons (gNm [] 3) (gsCons (gTp 2 (gsCons (gNm [] 6) (gsCons (gNm [] 7) (gsNil)))) (gsNil))))) (sSeq (sSet [] 1 (eCall [] 1 m_first_apart (aCons (eVar 3) (aNil)))) (sSeq (sIf (t2 dIsNot (eVar 1) (eC .non)) (sRet [] (eTup [] (aCons (eC (.str "no")) (aCons (eVar 1) (aNil))))) (sNil)) (sSeq (sSet [] 2 (eCall [] 1 m_signed_bounds (aCons (eVar 3) (aNil)))) (sSeq (sAsg [] (eCall [] 1 m_sums (aCons (eVar 2) (aNil))) (gTp 2 (gsCons (gNm [] 4) (gsCons (gNm [] 5) (gsNil))))) (sSeq (sIf (t2 dGt (eCall [] 2 m_compare (aCons (eVar 4) (aCons (eVar 7) (aNil)))) (eC (.int 0))) (sRet [] (eTup [] (aCons (eC (.str "no")) (aCons (eTup [] (aCons (eC (.str "over")) (aCons (eCall [] 2 m_minus (aCons (eVar 4) (aCons (eVar 7) (aNil)))) (aNil)))) (aNil))))) (sNil)) (sSeq (sIf (t2 dLt (eCall [] 2 m_compare (aCons (eVar 5) (aCons (eVar 6) (aNil)))) (eC (.int 0))) (sRet [] (eTup [] (aCons (eC (.str "no")) (aCons (eTup [] (aCons (eC (.str "under")) (aCons (eCall [] 2 m_minus (aCons (eVar 6) (aCons (eVar 5) (aNil)))) (aNil)))) (aNil))))) (sNil)) (sRet [] (eTup [] (aCons (eC (.str "yes")) (aCons (eCall [] 2 m_with_signs (aCons (eVar 3) (aCons (eCall [] 2 m_raised_values (aCons (eVar 2) (aCons (eVar 6) (aNil)))) (aNil)))) (aNil))))))))))))
def m_settle_strike : Fn := runF 7 b_settle_strike
def b__law_yes_papers_c1 : Ex := eCall [] 2 m__law_ratio (aCons (eVar 12) (aCons (eVar 3) (aNil)))
def b__law_yes_papers_f2 : Sx := sEx (eMl [] 7 mAppend (aCons (e2 dAdd (e2 dAdd (eSl (eVar 5) (pNo) (pSo (eVar 6))) (eTup [] (aCons (eCall [] 2 m__law_ratio (aCons (e2 dAdd (e2 dMul (eC (.int 60)) (e2 dIx (eVar 4) (eVar 6))) (eVar 8)) (aCons (e2 dMul (eC (.int 60)) (eVar 3)) (aNil)))) (aNil)))) (eSl (eVar 5) (pSo (e2 dAdd (eVar 6) (eC (.int 1)))) (pNo))) (aNil)))
def b__law_yes_papers_f3 : Sx := sSeq (sSet [] 11 (eCall [] 1 m__law_meet (aCons (e2 dIx (e2 dIx (eVar 1) (eVar 10)) (eC (.int 1))) (aNil)))) (sEx (eMl [] 9 mAppend (aCons (e2 dAdd (e2 dIx (eVar 11) (eC (.int 0))) (e2 dMod (eB dInt1 (aCons (eCall [] 2 m__law_at (aCons (eVar 0) (aCons (e2 dAdd (eC (.int 51)) (eVar 10)) (aNil)))) (aNil))) (e2 dAdd (eB dAbs (aCons (e2 dSub (e2 dIx (eVar 11) (eC (.int 1))) (e2 dIx (eVar 11) (eC (.int 0)))) (aNil))) (eC (.int 1))))) (aNil))))
def b__law_yes_papers_c4 : Ex := eCall [] 2 m__law_ratio (aCons (eVar 12) (aCons (eVar 3) (aNil)))
def b__law_yes_papers : Sx := sSeq (sSet [] 4 (eCall [] 4 m__law_values (aCons (eVar 1) (aCons (e2 dIx (eVar 2) (eC (.int 0))) (aCons (e1 dNeg (eC (.int 1))) (aCons (eC (.int 0)) (aNil))))))) (sSeq (sSet [] 5 (eB dTup1 (aCons (eLc [] [12] (iVal [] (eVar 4)) (gNm [] 12) (tsNo) b__law_yes_papers_c1) (aNil)))) (sSeq (sSet [] 6 (e2 dMod (eB dInt1 (aCons (eCall [] 2 m__law_at (aCons (eVar 0) (aCons (eC (.int 50)) (aNil)))) (aNil))) (eB dLen1 (aCons (eVar 4) (aNil))))) (sSeq (sSet [] 7 (eLst [] (aCons (eVar 5) (aCons (eB dLst1 (aCons (eVar 5) (aNil))) (aCons (eSl (eVar 5) (pNo) (pSo (e1 dNeg (eC (.int 1))))) (aCons (e2 dAdd (eVar 5) (eTup [] (aCons (eTup [] (aCons (eC (.int 0)) (aCons (eC (.int 1)) (aNil)))) (aNil)))) (aCons (e2 dAdd (e2 dAdd (eSl (eVar 5) (pNo) (pSo (eVar 6))) (eTup [] (aCons (e2 dIx (e2 dIx (eVar 5) (eVar 6)) (eC (.int 0))) (aNil)))) (eSl (eVar 5) (pSo (e2 dAdd (eVar 6) (eC (.int 1)))) (pNo))) (aNil)))))))) (sSeq (sEx (eMl [] 7 mAppend (aCons (e2 dAdd (e2 dAdd (eSl (eVar 5) (pNo) (pSo (eVar 6))) (eTup [] (aCons (eTup [] (aCons (e2 dMul (eC (.int 2)) (e2 dIx (e2 dIx (eVar 5) (eVar 6)) (eC (.int 0)))) (aCons (e2 dMul (eC (.int 2)) (e2 dIx (e2 dIx (eVar 5) (eVar 6)) (eC (.int 1)))) (aNil)))) (aNil)))) (eSl (eVar 5) (pSo (e2 dAdd (eVar 6) (eC (.int 1)))) (pNo))) (aNil)))) (sSeq (sEx (eMl [] 7 mAppend (aCons (e2 dAdd (e2 dAdd (eSl (eVar 5) (pNo) (pSo (eVar 6))) (eTup [] (aCons (eTup [] (aCons (e2 dIx (e2 dIx (eVar 5) (eVar 6)) (eC (.int 0))) (aCons (e1 dNeg (e2 dIx (e2 dIx (eVar 5) (eVar 6)) (eC (.int 1)))) (aNil)))) (aNil)))) (eSl (eVar 5) (pSo (e2 dAdd (eVar 6) (eC (.int 1)))) (pNo))) (aNil)))) (sSeq (sFor (iVal [] (eLst [] (aCons (eC (.int 60)) (aCons (e1 dNeg (eC (.int 60))) (aCons (eC (.int 1)) (aCons (e1 dNeg (eC (.int 1))) (aCons (eC (.int 30)) (aNil)))))))) (gNm [] 8) b__law_yes_papers_f2) (sSeq (sSet [] 9 (eLst [] (aNil))) (sSeq (sFor (iRg1 (aCons (eB dLen1 (aCons (eVar 1) (aNil))) (aNil))) (gNm [] 10) b__law_yes_papers_f3) (sSeq (sEx (eMl [] 7 mAppend (aCons (eB dTup1 (aCons (eLc [] [12] (iVal [] (eVar 9)) (gNm [] 12) (tsNo) b__law_yes_papers_c4) (aNil))) (aNil)))) (sRet [] (e2 dAdd (eVar 7) (eLst [] (aCons (eTup [] (aNil)) (aCons (eC .non) (aCons (eC (.int 1)) (aCons (eC (.str "yes")) (aNil)))))))))))))))))
def m__law_yes_papers : Fn := runF 9 b__law_yes_papers
def b__law_no_papers_f1 : Sx := sEx (eMl [] 4 mAppend (aCons (eTup [] (aCons (eC (.str "apart")) (aCons (eVar 5) (aCons (eVar 6) (aCons (eVar 9) (aNil)))))) (aNil)))
def b__law_no_papers_f2 : Sx := sFor (iRg1 (aCons (eC (.int 4)) (aNil))) (gNm [] 9) b__law_no_papers_f1
def b__law_no_papers_f3 : Sx := sSeq (sEx (eMl [] 4 mAppend (aCons (eTup [] (aCons (eVar 10) (aCons (eCall [] 2 m__law_ratio (aCons (eVar 8) (aCons (eVar 3) (aNil)))) (aNil)))) (aNil)))) (sSeq (sEx (eMl [] 4 mAppend (aCons (eTup [] (aCons (eVar 10) (aCons (eCall [] 2 m__law_ratio (aCons (e2 dMul (eC (.int 2)) (eVar 8)) (aCons (eVar 3) (aNil)))) (aNil)))) (aNil)))) (sEx (eMl [] 4 mAppend (aCons (eTup [] (aCons (eVar 10) (aCons (eCall [] 2 m__law_ratio (aCons (e1 dNeg (eVar 8)) (aCons (eVar 3) (aNil)))) (aNil)))) (aNil)))))
def b__law_no_papers_f4 : Sx := sFor (iVal [] (eLst [] (aCons (eC (.str "over")) (aCons (eC (.str "under")) (aNil))))) (gNm [] 10) b__law_no_papers_f3
def b__law_no_papers : Sx := sSeq (sSet [] 4 (eLst [] (aCons (eTup [] (aNil)) (aCons (eC .non) (aCons (eTup [] (aCons (eC (.str "over")) (aNil))) (aCons (eTup [] (aCons (eC (.str "mass")) (aNil))) (aCons (eTup [] (aCons (eC (.str "apart")) (aCons (eC (.int 0)) (aCons (eC (.int 0)) (aCons (eC (.int 0)) (aNil)))))) (aCons (eLst [] (aCons (eC (.str "over")) (aCons (eTup [] (aCons (eC (.int 1)) (aCons (eC (.int 1)) (aNil)))) (aNil)))) (aCons (eTup [] (aCons (eC (.str "apart")) (aCons (eC (.int 0)) (aCons (eC (.int 0)) (aCons (eC (.bl true)) (aNil)))))) (aCons (eTup [] (aCons (eC (.str "over")) (aCons (eC (.int 1)) (aNil)))) (aNil))))))))))) (sSeq (sSet [] 5 (e2 dMod (eB dInt1 (aCons (eCall [] 2 m__law_at (aCons (eVar 0) (aCons (eC (.int 60)) (aNil)))) (aNil))) (eB dLen1 (aCons (eVar 1) (aNil))))) (sSeq (sFor (iRg1 (aCons (eC (.int 4)) (aNil))) (gNm [] 6) b__law_no_papers_f2) (sSeq (sIf (t2 dIsNot (eCall [] 1 m__law_apart (aCons (eVar 1) (aNil))) (eC .non)) (sSeq (sEx (eMl [] 4 mAppend (aCons (eCall [] 1 m__law_apart (aCons (eVar 1) (aNil))) (aNil)))) (sEx (eMl [] 4 mAppend (aCons (eB dLst1 (aCons (eCall [] 1 m__law_apart (aCons (eVar 1) (aNil))) (aNil))) (aNil))))) (sNil)) (sSeq (sSet [] 7 (eCall [] 1 m__law_ends (aCons (eVar 1) (aNil)))) (sSeq (sFor (iVal [] (eLst [] (aCons (e2 dSub (e2 dIx (eVar 7) (eC (.int 0))) (e2 dIx (eVar 2) (eC (.int 1)))) (aCons (e2 dSub (e2 dIx (eVar 2) (eC (.int 0))) (e2 dIx (eVar 7) (eC (.int 1)))) (aCons (eC (.int 0)) (aCons (eC (.int 1)) (aNil))))))) (gNm [] 8) b__law_no_papers_f4) (sRet [] (eVar 4)))))))
def m__law_no_papers : Fn := runF 7 b__law_no_papers
def b_law_c1 : Ex := eTup [] (aCons (eC (.str "yes")) (aCons (eVar 11) (aNil)))
def b_law_c2 : Ex := eTup [] (aCons (eC (.str "no")) (aCons (eVar 11) (aNil)))
def b_law_f3 : Sx := sSeq (sSet [] 10 (eCall [] 2 m_upholds_strike (aCons (eVar 6) (aCons (eVar 9) (aNil))))) (sSeq (sIf (tAnd (t2 dIsNot (eVar 10) (eC (.bl true))) (t2 dIsNot (eVar 10) (eC (.bl false)))) (sRet [] (eC (.bl false))) (sNil)) (sSeq (sIf (t2 dNe (eVar 10) (eCall [] 4 m__law_right (aCons (eVar 3) (aCons (eVar 5) (aCons (eVar 4) (aCons (eVar 9) (aNil))))))) (sRet [] (eC (.bl false))) (sNil)) (sIf (tAnd (tTru (eVar 10)) (t2 dNe (e2 dIx (eVar 9) (eC (.int 0))) (e2 dIx (eVar 7) (eC (.int 0))))) (sRet [] (eC (.bl false))) (sNil))))
def b_law : Sx := sSeq (sSet [] 1 (eCall [] 1 m__law_pool (aCons (eVar 0) (aNil)))) (sSeq (sSet [] 2 (eCall [] 2 m__law_strike (aCons (eVar 1) (aCons (eC (.int 0)) (aNil))))) (sSeq (sSet [] 3 (e2 dIx (eVar 2) (eC (.int 0)))) (sSeq (sSet [] 4 (e2 dIx (eVar 2) (eC (.int 1)))) (sSeq (sSet [] 5 (eCall [] 3 m__law_total (aCons (eVar 1) (aCons (eC (.int 40)) (aCons (eVar 3) (aNil)))))) (sSeq (sSet [] 6 (eCall [] 3 m__law_subject (aCons (eVar 3) (aCons (eVar 5) (aCons (eVar 4) (aNil)))))) (sSeq (sSet [] 7 (eCall [] 3 m__law_due (aCons (eVar 3) (aCons (eVar 5) (aCons (eVar 4) (aNil)))))) (sSeq (sIf (tOr (t2 dIsNot (eCall [] 2 m_upholds_strike (aCons (eVar 6) (aCons (eCall [] 1 m_settle_strike (aCons (eVar 6) (aNil))) (aNil)))) (eC (.bl true))) (t2 dNe (e2 dIx (eCall [] 1 m_settle_strike (aCons (eVar 6) (aNil))) (eC (.int 0))) (e2 dIx (eVar 7) (eC (.int 0))))) (sRet [] (eC (.bl false))) (sNil)) (sSeq (sSet [] 8 (eLst [] (aCons (eVar 7) (aCons (eTup [] (aCons (eC (.str "no")) (aCons (e2 dIx (eVar 7) (eC (.int 1))) (aNil)))) (aCons (eTup [] (aCons (eC (.str "yes")) (aCons (e2 dIx (eVar 7) (eC (.int 1))) (aNil)))) (aCons (eB dLst1 (aCons (eVar 7) (aNil))) (aCons (e2 dAdd (eVar 7) (eTup [] (aCons (eC (.int 1)) (aNil)))) (aCons (eC .non) (aCons (eC (.str "yes")) (aCons (eC (.int 4)) (aCons (eTup [] (aCons (eC (.bl true)) (aCons (e2 dIx (eVar 7) (eC (.int 1))) (aNil)))) (aCons (eSl (eVar 7) (pNo) (pSo (eC (.int 1)))) (aNil))))))))))))) (sSeq (sSet [] 8 (e2 dAdd (eVar 8) (eLc [] [11] (iVal [] (eCall [] 4 m__law_yes_papers (aCons (eVar 1) (aCons (eVar 3) (aCons (eVar 5) (aCons (eVar 4) (aNil))))))) (gNm [] 11) (tsNo) b_law_c1))) (sSeq (sSet [] 8 (e2 dAdd (eVar 8) (eLc [] [11] (iVal [] (eCall [] 4 m__law_no_papers (aCons (eVar 1) (aCons (eVar 3) (aCons (eVar 5) (aCons (eVar 4) (aNil))))))) (gNm [] 11) (tsNo) b_law_c2))) (sSeq (sFor (iVal [] (eVar 8)) (gNm [] 9) b_law_f3) (sRet [] (eC (.bl true))))))))))))))
def m_law : Fn := runF 11 b_law
end K16

namespace K16
open PL PySem PySem.Spec PyProof.Rows L2
def top (i : Nat) : Stmt := PySem.Challenge.pw_typefoundry_k16_whole_strikes.main.body.getD i (.Pass ⟨0, 0, 0, 0⟩)
abbrev st__law_pool : Stmt := top 48
abbrev st__law_at : Stmt := top 49
abbrev st__law_strike : Stmt := top 51
abbrev st__law_meet : Stmt := top 52
abbrev st__law_ends : Stmt := top 53
abbrev st__law_total : Stmt := top 54
abbrev st__law_ratio : Stmt := top 50
abbrev st__law_as_reading : Stmt := top 55
abbrev st__law_subject : Stmt := top 56
abbrev st__law_apart : Stmt := top 57
abbrev st__law_values : Stmt := top 58
abbrev st__law_due : Stmt := top 59
abbrev st_is_tuple_of : Stmt := top 8
abbrev st_is_whole : Stmt := top 6
abbrev st_is_ratio : Stmt := top 13
abbrev st_check_ratio : Stmt := top 15
abbrev st_compare : Stmt := top 20
abbrev st_is_small_ratio : Stmt := top 14
abbrev st_is_reading : Stmt := top 28
abbrev st_are_readings : Stmt := top 29
abbrev st_is_term : Stmt := top 30
abbrev st_check_strike : Stmt := top 31
abbrev st_ratio : Stmt := top 16
abbrev st_plus : Stmt := top 17
abbrev st_total : Stmt := top 23
abbrev st_sums : Stmt := top 37
abbrev st_is_whole_in : Stmt := top 7
abbrev st_names_apart : Stmt := top 44
abbrev st_larger : Stmt := top 22
abbrev st_greatest_low : Stmt := top 32
abbrev st_lesser : Stmt := top 21
abbrev st_least_high : Stmt := top 33
abbrev st_are_apart : Stmt := top 34
abbrev st_any_apart : Stmt := top 35
abbrev st_minus : Stmt := top 18
abbrev st_signed_bounds : Stmt := top 36
abbrev st_is_unsound : Stmt := top 45
abbrev st_is_answer : Stmt := top 9
abbrev st_lies_in : Stmt := top 42
abbrev st_times : Stmt := top 19
abbrev st_with_signs : Stmt := top 39
abbrev st_are_measures : Stmt := top 43
abbrev st_upholds_strike : Stmt := top 46
abbrev st__law_is_whole : Stmt := top 60
abbrev st__law_parts : Stmt := top 61
abbrev st__law_yes : Stmt := top 62
abbrev st__law_names_apart : Stmt := top 63
abbrev st__law_no : Stmt := top 64
abbrev st__law_right : Stmt := top 65
abbrev st_first_apart : Stmt := top 40
abbrev st_raised_values : Stmt := top 38
abbrev st_settle_strike : Stmt := top 41
abbrev st__law_yes_papers : Stmt := top 66
abbrev st__law_no_papers : Stmt := top 67
abbrev st_law : Stmt := top 68
structure Txt (K : PySem.W.Frag) (mg : Str → Option Value) : Prop where
  con_GREATEST_BOTTOM : Con0 K mg "GREATEST_BOTTOM" c_GREATEST_BOTTOM
  con_GREATEST_TOP : Con0 K mg "GREATEST_TOP" c_GREATEST_TOP
  con_MOST_READINGS : Con0 K mg "MOST_READINGS" c_MOST_READINGS
  con_MOST_TERMS : Con0 K mg "MOST_TERMS" c_MOST_TERMS
  con_ZERO : Con0 K mg "ZERO" c_ZERO
  fun_gcd : mg "gcd" = some (.builtin "math.gcd")
  no_abs : mg "abs" = none
  no_all : mg "all" = none
  no_any : mg "any" = none
  no_bool : mg "bool" = none
  no_enumerate : mg "enumerate" = none
  no_int : mg "int" = none
  no_isinstance : mg "isinstance" = none
  no_len : mg "len" = none
  no_list : mg "list" = none
  no_max : mg "max" = none
  no_min : mg "min" = none
  no_range : mg "range" = none
  no_str : mg "str" = none
  no_sum : mg "sum" = none
  no_tuple : mg "tuple" = none
  no_zip : mg "zip" = none
  exc_BadRatio : Exc0 K mg "BadRatio"
  exc_BadStrike : Exc0 K mg "BadStrike"
  fn__law_pool : FnT K mg "_law_pool" st__law_pool ["script"]
  fn__law_at : FnT K mg "_law_at" st__law_at ["pool", "k"]
  fn__law_strike : FnT K mg "_law_strike" st__law_strike ["pool", "k"]
  fn__law_meet : FnT K mg "_law_meet" st__law_meet ["readings"]
  fn__law_ends : FnT K mg "_law_ends" st__law_ends ["terms"]
  fn__law_total : FnT K mg "_law_total" st__law_total ["pool", "k", "terms"]
  fn__law_ratio : FnT K mg "_law_ratio" st__law_ratio ["value", "unit"]
  fn__law_as_reading : FnT K mg "_law_as_reading" st__law_as_reading ["pair", "unit"]
  fn__law_subject : FnT K mg "_law_subject" st__law_subject ["terms", "total_v", "unit"]
  fn__law_apart : FnT K mg "_law_apart" st__law_apart ["terms"]
  fn__law_values : FnT K mg "_law_values" st__law_values ["terms", "wanted", "held", "at"]
  fn__law_due : FnT K mg "_law_due" st__law_due ["terms", "total_v", "unit"]
  fn_is_tuple_of : FnT K mg "is_tuple_of" st_is_tuple_of ["value", "low", "high"]
  fn_is_whole : FnT K mg "is_whole" st_is_whole ["value"]
  fn_is_ratio : FnT K mg "is_ratio" st_is_ratio ["value"]
  fn_check_ratio : FnT K mg "check_ratio" st_check_ratio ["value"]
  fn_compare : FnT K mg "compare" st_compare ["a", "b"]
  fn_is_small_ratio : FnT K mg "is_small_ratio" st_is_small_ratio ["value"]
  fn_is_reading : FnT K mg "is_reading" st_is_reading ["value"]
  fn_are_readings : FnT K mg "are_readings" st_are_readings ["value"]
  fn_is_term : FnT K mg "is_term" st_is_term ["value"]
  fn_check_strike : FnT K mg "check_strike" st_check_strike ["subject"]
  fn_ratio : FnT K mg "ratio" st_ratio ["n", "d"]
  fn_plus : FnT K mg "plus" st_plus ["a", "b"]
  fn_total : FnT K mg "total" st_total ["ratios"]
  fn_sums : FnT K mg "sums" st_sums ["bounds"]
  fn_is_whole_in : FnT K mg "is_whole_in" st_is_whole_in ["value", "low", "high"]
  fn_names_apart : FnT K mg "names_apart" st_names_apart ["terms", "paper"]
  fn_larger : FnT K mg "larger" st_larger ["a", "b"]
  fn_greatest_low : FnT K mg "greatest_low" st_greatest_low ["readings"]
  fn_lesser : FnT K mg "lesser" st_lesser ["a", "b"]
  fn_least_high : FnT K mg "least_high" st_least_high ["readings"]
  fn_are_apart : FnT K mg "are_apart" st_are_apart ["readings"]
  fn_any_apart : FnT K mg "any_apart" st_any_apart ["terms"]
  fn_minus : FnT K mg "minus" st_minus ["a", "b"]
  fn_signed_bounds : FnT K mg "signed_bounds" st_signed_bounds ["terms"]
  fn_is_unsound : FnT K mg "is_unsound" st_is_unsound ["subject", "paper"]
  fn_is_answer : FnT K mg "is_answer" st_is_answer ["value"]
  fn_lies_in : FnT K mg "lies_in" st_lies_in ["value", "bounds"]
  fn_times : FnT K mg "times" st_times ["a", "b"]
  fn_with_signs : FnT K mg "with_signs" st_with_signs ["terms", "values"]
  fn_are_measures : FnT K mg "are_measures" st_are_measures ["subject", "paper"]
  fn_upholds_strike : FnT K mg "upholds_strike" st_upholds_strike ["subject", "answer"]
  fn__law_is_whole : FnT K mg "_law_is_whole" st__law_is_whole ["value"]
  fn__law_parts : FnT K mg "_law_parts" st__law_parts ["value", "unit"]
  fn__law_yes : FnT K mg "_law_yes" st__law_yes ["terms", "total_v", "unit", "paper"]
  fn__law_names_apart : FnT K mg "_law_names_apart" st__law_names_apart ["terms", "paper"]
  fn__law_no : FnT K mg "_law_no" st__law_no ["terms", "total_v", "unit", "paper"]
  fn__law_right : FnT K mg "_law_right" st__law_right ["terms", "total_v", "unit", "answer"]
  fn_first_apart : FnT K mg "first_apart" st_first_apart ["terms"]
  fn_raised_values : FnT K mg "raised_values" st_raised_values ["bounds", "wanted"]
  fn_settle_strike : FnT K mg "settle_strike" st_settle_strike ["subject"]
  fn__law_yes_papers : FnT K mg "_law_yes_papers" st__law_yes_papers ["pool", "terms", "total_v", "unit"]
  fn__law_no_papers : FnT K mg "_law_no_papers" st__law_no_papers ["pool", "terms", "total_v", "unit"]
  fn_law : FnT K mg "law" st_law ["script"]
section
variable {P : Program} {w : World} {K : PySem.W.Frag} {mg : Str → Option Value} {base : Heap}
theorem sc__law_pool : FnScope ["script", "pool", "cell", "rest", "k"] ["script"] (defScope st__law_pool) := ⟨rfl, rfl, rfl, by decide +kernel, rfl, by decide +kernel, by decide +kernel⟩
theorem nd__law_pool : (["script", "pool", "cell", "rest", "k"] : List Str).Nodup := sc__law_pool.nd
theorem kd__law_pool : (defScope st__law_pool).kind = .function := rfl
theorem lk__law_pool_abs : (defScope st__law_pool).names.lookup ("abs" : Str) = some .globalImplicit := by decide +kernel
theorem lk__law_pool_cell : (defScope st__law_pool).names.lookup ("cell" : Str) = some .local := by decide +kernel
theorem lk__law_pool_int : (defScope st__law_pool).names.lookup ("int" : Str) = some .globalImplicit := by decide +kernel
theorem lk__law_pool_k : (defScope st__law_pool).names.lookup ("k" : Str) = some .local := by decide +kernel
theorem lk__law_pool_pool : (defScope st__law_pool).names.lookup ("pool" : Str) = some .local := by decide +kernel
theorem lk__law_pool_range : (defScope st__law_pool).names.lookup ("range" : Str) = some .globalImplicit := by decide +kernel
theorem lk__law_pool_rest : (defScope st__law_pool).names.lookup ("rest" : Str) = some .local := by decide +kernel
theorem lk__law_pool_script : (defScope st__law_pool).names.lookup ("script" : Str) = some .local := by decide +kernel
theorem cal__law_pool (T : Txt K mg) : Cal0 P w K mg base 1 "_law_pool" 1 m__law_pool := by
  refine Cal0.of (k := 0) (m := 4) (f := b__law_pool) T.fn__law_pool sc__law_pool rfl rfl fun H0 => ?_
  exact (ss_cons (s_set ⟨nd__law_pool, rfl, Or.inl lk__law_pool_pool, Or.inl rfl⟩ (e_lst a_nil)) (ss_cons (s_for (i_val (e_sl (e_var (i := 0) rfl (Or.inl lk__law_pool_script)) p_no (p_so e_int))) (g_nm ⟨nd__law_pool, rfl, Or.inl lk__law_pool_cell, Or.inl rfl⟩) (ss_cons (s_set ⟨nd__law_pool, rfl, Or.inl lk__law_pool_rest, Or.inl rfl⟩ (e_cb (fun _ A => c_abs A) T.no_abs rfl (a_cons (e_cty (fun _ A => c_int A) T.no_int rfl (a_cons (e_var (i := 2) rfl (Or.inl lk__law_pool_cell)) a_nil) lk__law_pool_int) a_nil) lk__law_pool_abs)) (ss_one (s_for (i_rg1 T.no_range (a_cons e_int a_nil) lk__law_pool_range) (g_nm ⟨nd__law_pool, rfl, Or.inl lk__law_pool_k, Or.inl rfl⟩) (ss_one (s_if (t_w (w_or (t_cmp (fun _ A => o_gt A) (e_var (i := 3) rfl (Or.inl lk__law_pool_rest)) e_int) (w_or1 (t_cmp (fun _ A => o_eq A) (e_var (i := 4) rfl (Or.inl lk__law_pool_k)) e_int)))) (ss_cons (s_ex (e_ml (i := 1) PySem.F.slot_list_append PySem.F.type_list_append (fun _ A => m_append A) (a_cons (e_bin (fun _ A => o_mod A) (e_cty (fun _ A => c_int A) T.no_int rfl (a_cons (e_var (i := 3) rfl (Or.inl lk__law_pool_rest)) a_nil) lk__law_pool_int) e_int) a_nil) rfl (Or.inl lk__law_pool_pool))) (ss_one (s_set ⟨nd__law_pool, rfl, Or.inl lk__law_pool_rest, Or.inl rfl⟩ (e_bin (fun _ A => o_div A) (e_var (i := 3) rfl (Or.inl lk__law_pool_rest)) e_int)))) ss_nil)))))) (ss_one (s_ret (e_sl (e_var (i := 1) rfl (Or.inl lk__law_pool_pool)) p_no (p_so e_int))))))
theorem sc__law_at : FnScope ["pool", "k", "seed"] ["pool", "k"] (defScope st__law_at) := ⟨rfl, rfl, rfl, by decide +kernel, rfl, by decide +kernel, by decide +kernel⟩
theorem nd__law_at : (["pool", "k", "seed"] : List Str).Nodup := sc__law_at.nd
theorem kd__law_at : (defScope st__law_at).kind = .function := rfl
theorem lk__law_at_int : (defScope st__law_at).names.lookup ("int" : Str) = some .globalImplicit := by decide +kernel
theorem lk__law_at_k : (defScope st__law_at).names.lookup ("k" : Str) = some .local := by decide +kernel
theorem lk__law_at_len : (defScope st__law_at).names.lookup ("len" : Str) = some .globalImplicit := by decide +kernel
theorem lk__law_at_pool : (defScope st__law_at).names.lookup ("pool" : Str) = some .local := by decide +kernel
theorem lk__law_at_seed : (defScope st__law_at).names.lookup ("seed" : Str) = some .local := by decide +kernel
theorem cal__law_at (T : Txt K mg) : Cal0 P w K mg base 1 "_law_at" 2 m__law_at := by
  refine Cal0.of (k := 0) (m := 1) (f := b__law_at) T.fn__law_at sc__law_at rfl rfl fun H0 => ?_
  exact (ss_cons (s_if (t_cmp (fun _ A => o_lt A) (e_var (i := 1) rfl (Or.inl lk__law_at_k)) (e_cb (fun _ A => c_len1 A) T.no_len rfl (a_cons (e_var (i := 0) rfl (Or.inl lk__law_at_pool)) a_nil) lk__law_at_len)) (ss_one (s_ret (e_ix (e_var (i := 0) rfl (Or.inl lk__law_at_pool)) (e_var (i := 1) rfl (Or.inl lk__law_at_k))))) ss_nil) (ss_cons (s_set ⟨nd__law_at, rfl, Or.inl lk__law_at_seed, Or.inl rfl⟩ (e_bin (fun _ A => o_add A) e_int (e_bin (fun _ A => o_mul A) e_int (e_var (i := 1) rfl (Or.inl lk__law_at_k))))) (ss_cons (s_if (t_cmp (fun _ A => o_gt A) (e_cb (fun _ A => c_len1 A) T.no_len rfl (a_cons (e_var (i := 0) rfl (Or.inl lk__law_at_pool)) a_nil) lk__law_at_len) e_int) (ss_one (s_set ⟨nd__law_at, rfl, Or.inl lk__law_at_seed, Or.inl rfl⟩ (e_bin (fun _ A => o_add A) (e_bin (fun _ A => o_add A) (e_var (i := 2) rfl (Or.inl lk__law_at_seed)) (e_bin (fun _ A => o_mul A) (e_bin (fun _ A => o_add A) (e_ix (e_var (i := 0) rfl (Or.inl lk__law_at_pool)) (e_bin (fun _ A => o_mod A) (e_cty (fun _ A => c_int A) T.no_int rfl (a_cons (e_var (i := 1) rfl (Or.inl lk__law_at_k)) a_nil) lk__law_at_int) (e_cb (fun _ A => c_len1 A) T.no_len rfl (a_cons (e_var (i := 0) rfl (Or.inl lk__law_at_pool)) a_nil) lk__law_at_len))) e_int) (e_bin (fun _ A => o_add A) (e_bin (fun _ A => o_mul A) (e_var (i := 1) rfl (Or.inl lk__law_at_k)) (e_var (i := 1) rfl (Or.inl lk__law_at_k))) e_int))) (e_cb (fun _ A => c_len1 A) T.no_len rfl (a_cons (e_var (i := 0) rfl (Or.inl lk__law_at_pool)) a_nil) lk__law_at_len)))) ss_nil) (ss_cons (s_set ⟨nd__law_at, rfl, Or.inl lk__law_at_seed, Or.inl rfl⟩ (e_bin (fun _ A => o_mod A) (e_cty (fun _ A => c_int A) T.no_int rfl (a_cons (e_bin (fun _ A => o_add A) (e_bin (fun _ A => o_mul A) (e_var (i := 2) rfl (Or.inl lk__law_at_seed)) e_int) e_int) a_nil) lk__law_at_int) e_int)) (ss_cons (s_set ⟨nd__law_at, rfl, Or.inl lk__law_at_seed, Or.inl rfl⟩ (e_bin (fun _ A => o_mod A) (e_cty (fun _ A => c_int A) T.no_int rfl (a_cons (e_bin (fun _ A => o_add A) (e_bin (fun _ A => o_mul A) (e_var (i := 2) rfl (Or.inl lk__law_at_seed)) (e_var (i := 2) rfl (Or.inl lk__law_at_seed))) (e_var (i := 1) rfl (Or.inl lk__law_at_k))) a_nil) lk__law_at_int) e_int)) (ss_cons (s_set ⟨nd__law_at, rfl, Or.inl lk__law_at_seed, Or.inl rfl⟩ (e_bin (fun _ A => o_mod A) (e_cty (fun _ A => c_int A) T.no_int rfl (a_cons (e_bin (fun _ A => o_add A) (e_bin (fun _ A => o_mul A) (e_var (i := 2) rfl (Or.inl lk__law_at_seed)) (e_var (i := 2) rfl (Or.inl lk__law_at_seed))) e_int) a_nil) lk__law_at_int) e_int)) (ss_one (s_ret (e_bin (fun _ A => o_mod A) (e_cty (fun _ A => c_int A) T.no_int rfl (a_cons (e_bin (fun _ A => o_div A) (e_var (i := 2) rfl (Or.inl lk__law_at_seed)) e_int) a_nil) lk__law_at_int) e_int)))))))))
theorem sc__law_strike : FnScope ["pool", "k", "unit", "terms", "j", "pick", "low", "high", "readings", "i", "shift", "wide"] ["pool", "k"] (defScope st__law_strike) := ⟨rfl, rfl, rfl, by decide +kernel, rfl, by decide +kernel, by decide +kernel⟩
theorem nd__law_strike : (["pool", "k", "unit", "terms", "j", "pick", "low", "high", "readings", "i", "shift", "wide"] : List Str).Nodup := sc__law_strike.nd
theorem kd__law_strike : (defScope st__law_strike).kind = .function := rfl
theorem lk__law_strike__law_at : (defScope st__law_strike).names.lookup ("_law_at" : Str) = some .globalImplicit := by decide +kernel
theorem lk__law_strike_high : (defScope st__law_strike).names.lookup ("high" : Str) = some .local := by decide +kernel
theorem lk__law_strike_i : (defScope st__law_strike).names.lookup ("i" : Str) = some .local := by decide +kernel
theorem lk__law_strike_int : (defScope st__law_strike).names.lookup ("int" : Str) = some .globalImplicit := by decide +kernel
theorem lk__law_strike_j : (defScope st__law_strike).names.lookup ("j" : Str) = some .local := by decide +kernel
theorem lk__law_strike_k : (defScope st__law_strike).names.lookup ("k" : Str) = some .local := by decide +kernel
theorem lk__law_strike_low : (defScope st__law_strike).names.lookup ("low" : Str) = some .local := by decide +kernel
theorem lk__law_strike_pick : (defScope st__law_strike).names.lookup ("pick" : Str) = some .local := by decide +kernel
theorem lk__law_strike_pool : (defScope st__law_strike).names.lookup ("pool" : Str) = some .local := by decide +kernel
theorem lk__law_strike_range : (defScope st__law_strike).names.lookup ("range" : Str) = some .globalImplicit := by decide +kernel
theorem lk__law_strike_readings : (defScope st__law_strike).names.lookup ("readings" : Str) = some .local := by decide +kernel
theorem lk__law_strike_shift : (defScope st__law_strike).names.lookup ("shift" : Str) = some .local := by decide +kernel
theorem lk__law_strike_terms : (defScope st__law_strike).names.lookup ("terms" : Str) = some .local := by decide +kernel
theorem lk__law_strike_unit : (defScope st__law_strike).names.lookup ("unit" : Str) = some .local := by decide +kernel
theorem lk__law_strike_wide : (defScope st__law_strike).names.lookup ("wide" : Str) = some .local := by decide +kernel
theorem cal__law_strike (T : Txt K mg) : Cal0 P w K mg base 2 "_law_strike" 2 m__law_strike := by
  refine Cal0.of (k := 1) (m := 10) (f := b__law_strike) T.fn__law_strike sc__law_strike rfl rfl fun H0 => ?_
  have h__law_at : Cal ⟨P, w, K, mg, base, ["pool", "k", "unit", "terms", "j", "pick", "low", "high", "readings", "i", "shift", "wide"], defScope st__law_strike, fun _ => true, 1, H0, []⟩ "_law_at" 2 m__law_at := (cal__law_at T).cal (by decide)
  exact (ss_cons (s_set ⟨nd__law_strike, rfl, Or.inl lk__law_strike_unit, Or.inl rfl⟩ (e_ix (e_lst (a_cons e_int (a_cons e_int (a_cons e_int (a_cons e_int (a_cons e_int (a_cons e_int (a_cons e_int a_nil)))))))) (e_bin (fun _ A => o_mod A) (e_cty (fun _ A => c_int A) T.no_int rfl (a_cons (e_call h__law_at (a_cons (e_var (i := 0) rfl (Or.inl lk__law_strike_pool)) (a_cons (e_var (i := 1) rfl (Or.inl lk__law_strike_k)) a_nil)) lk__law_strike__law_at) a_nil) lk__law_strike_int) e_int))) (ss_cons (s_set ⟨nd__law_strike, rfl, Or.inl lk__law_strike_terms, Or.inl rfl⟩ (e_lst a_nil)) (ss_cons (s_for (i_rg1 T.no_range (a_cons (e_bin (fun _ A => o_add A) e_int (e_bin (fun _ A => o_mod A) (e_cty (fun _ A => c_int A) T.no_int rfl (a_cons (e_bin (fun _ A => o_div A) (e_call h__law_at (a_cons (e_var (i := 0) rfl (Or.inl lk__law_strike_pool)) (a_cons (e_var (i := 1) rfl (Or.inl lk__law_strike_k)) a_nil)) lk__law_strike__law_at) e_int) a_nil) lk__law_strike_int) e_int)) a_nil) lk__law_strike_range) (g_nm ⟨nd__law_strike, rfl, Or.inl lk__law_strike_j, Or.inl rfl⟩) (ss_cons (s_set ⟨nd__law_strike, rfl, Or.inl lk__law_strike_pick, Or.inl rfl⟩ (e_cty (fun _ A => c_int A) T.no_int rfl (a_cons (e_call h__law_at (a_cons (e_var (i := 0) rfl (Or.inl lk__law_strike_pool)) (a_cons (e_bin (fun _ A => o_add A) (e_bin (fun _ A => o_add A) (e_var (i := 1) rfl (Or.inl lk__law_strike_k)) e_int) (e_bin (fun _ A => o_mul A) e_int (e_var (i := 4) rfl (Or.inl lk__law_strike_j)))) a_nil)) lk__law_strike__law_at) a_nil) lk__law_strike_int)) (ss_cons (s_set ⟨nd__law_strike, rfl, Or.inl lk__law_strike_low, Or.inl rfl⟩ (e_bin (fun _ A => o_sub A) (e_bin (fun _ A => o_mod A) (e_cty (fun _ A => c_int A) T.no_int rfl (a_cons (e_call h__law_at (a_cons (e_var (i := 0) rfl (Or.inl lk__law_strike_pool)) (a_cons (e_bin (fun _ A => o_add A) (e_bin (fun _ A => o_add A) (e_var (i := 1) rfl (Or.inl lk__law_strike_k)) e_int) (e_bin (fun _ A => o_mul A) e_int (e_var (i := 4) rfl (Or.inl lk__law_strike_j)))) a_nil)) lk__law_strike__law_at) a_nil) lk__law_strike_int) e_int) e_int)) (ss_cons (s_set ⟨nd__law_strike, rfl, Or.inl lk__law_strike_high, Or.inl rfl⟩ (e_bin (fun _ A => o_add A) (e_var (i := 6) rfl (Or.inl lk__law_strike_low)) (e_bin (fun _ A => o_mod A) (e_cty (fun _ A => c_int A) T.no_int rfl (a_cons (e_call h__law_at (a_cons (e_var (i := 0) rfl (Or.inl lk__law_strike_pool)) (a_cons (e_bin (fun _ A => o_add A) (e_bin (fun _ A => o_add A) (e_var (i := 1) rfl (Or.inl lk__law_strike_k)) e_int) (e_bin (fun _ A => o_mul A) e_int (e_var (i := 4) rfl (Or.inl lk__law_strike_j)))) a_nil)) lk__law_strike__law_at) a_nil) lk__law_strike_int) e_int))) (ss_cons (s_set ⟨nd__law_strike, rfl, Or.inl lk__law_strike_readings, Or.inl rfl⟩ (e_lst (a_cons (e_tup (a_cons (e_var (i := 6) rfl (Or.inl lk__law_strike_low)) (a_cons (e_var (i := 7) rfl (Or.inl lk__law_strike_high)) a_nil))) a_nil))) (ss_cons (s_for (i_rg1 T.no_range (a_cons (e_ix (e_lst (a_cons e_int (a_cons e_int (a_cons e_int (a_cons e_int (a_cons e_int (a_cons e_int a_nil))))))) (e_bin (fun _ A => o_mod A) (e_cty (fun _ A => c_int A) T.no_int rfl (a_cons (e_var (i := 5) rfl (Or.inl lk__law_strike_pick)) a_nil) lk__law_strike_int) e_int)) a_nil) lk__law_strike_range) (g_nm ⟨nd__law_strike, rfl, Or.inl lk__law_strike_i, Or.inl rfl⟩) (ss_cons (s_set ⟨nd__law_strike, rfl, Or.inl lk__law_strike_shift, Or.inl rfl⟩ (e_bin (fun _ A => o_sub A) (e_bin (fun _ A => o_mod A) (e_cty (fun _ A => c_int A) T.no_int rfl (a_cons (e_bin (fun _ A => o_div A) (e_call h__law_at (a_cons (e_var (i := 0) rfl (Or.inl lk__law_strike_pool)) (a_cons (e_bin (fun _ A => o_add A) (e_bin (fun _ A => o_add A) (e_var (i := 1) rfl (Or.inl lk__law_strike_k)) e_int) (e_bin (fun _ A => o_mul A) e_int (e_var (i := 4) rfl (Or.inl lk__law_strike_j)))) a_nil)) lk__law_strike__law_at) (e_bin (fun _ A => o_add A) e_int (e_bin (fun _ A => o_mul A) e_int (e_var (i := 9) rfl (Or.inl lk__law_strike_i))))) a_nil) lk__law_strike_int) e_int) e_int)) (ss_cons (s_set ⟨nd__law_strike, rfl, Or.inl lk__law_strike_wide, Or.inl rfl⟩ (e_bin (fun _ A => o_mod A) (e_cty (fun _ A => c_int A) T.no_int rfl (a_cons (e_bin (fun _ A => o_div A) (e_call h__law_at (a_cons (e_var (i := 0) rfl (Or.inl lk__law_strike_pool)) (a_cons (e_bin (fun _ A => o_add A) (e_bin (fun _ A => o_add A) (e_var (i := 1) rfl (Or.inl lk__law_strike_k)) e_int) (e_bin (fun _ A => o_mul A) e_int (e_var (i := 4) rfl (Or.inl lk__law_strike_j)))) a_nil)) lk__law_strike__law_at) (e_bin (fun _ A => o_add A) e_int (e_bin (fun _ A => o_mul A) e_int (e_var (i := 9) rfl (Or.inl lk__law_strike_i))))) a_nil) lk__law_strike_int) e_int)) (ss_one (s_ex (e_ml (i := 8) PySem.F.slot_list_append PySem.F.type_list_append (fun _ A => m_append A) (a_cons (e_tup (a_cons (e_bin (fun _ A => o_add A) (e_var (i := 6) rfl (Or.inl lk__law_strike_low)) (e_var (i := 10) rfl (Or.inl lk__law_strike_shift))) (a_cons (e_bin (fun _ A => o_add A) (e_bin (fun _ A => o_add A) (e_bin (fun _ A => o_add A) (e_var (i := 6) rfl (Or.inl lk__law_strike_low)) (e_var (i := 10) rfl (Or.inl lk__law_strike_shift))) (e_var (i := 11) rfl (Or.inl lk__law_strike_wide))) (e_bin (fun _ A => o_mul A) (e_bin (fun _ A => o_sub A) (e_var (i := 7) rfl (Or.inl lk__law_strike_high)) (e_var (i := 6) rfl (Or.inl lk__law_strike_low))) (e_bin (fun _ A => o_mod A) (e_cty (fun _ A => c_int A) T.no_int rfl (a_cons (e_bin (fun _ A => o_div A) (e_var (i := 5) rfl (Or.inl lk__law_strike_pick)) e_int) a_nil) lk__law_strike_int) e_int))) a_nil))) a_nil) rfl (Or.inl lk__law_strike_readings))))))) (ss_one (s_ex (e_ml (i := 3) PySem.F.slot_list_append PySem.F.type_list_append (fun _ A => m_append A) (a_cons (e_tup (a_cons (e_ix (e_lst (a_cons e_int (a_cons e_int (a_cons (e_un (fun _ A => o_neg A) e_int) a_nil)))) (e_bin (fun _ A => o_mod A) (e_cty (fun _ A => c_int A) T.no_int rfl (a_cons (e_bin (fun _ A => o_div A) (e_var (i := 5) rfl (Or.inl lk__law_strike_pick)) e_int) a_nil) lk__law_strike_int) e_int)) (a_cons (e_var (i := 8) rfl (Or.inl lk__law_strike_readings)) a_nil))) a_nil) rfl (Or.inl lk__law_strike_terms)))))))))) (ss_one (s_ret (e_tup (a_cons (e_var (i := 3) rfl (Or.inl lk__law_strike_terms)) (a_cons (e_var (i := 2) rfl (Or.inl lk__law_strike_unit)) a_nil))))))))
theorem sc__law_meet : FnScope ["readings", "one"] ["readings"] (defScope st__law_meet) := ⟨rfl, rfl, rfl, by decide +kernel, rfl, by decide +kernel, by decide +kernel⟩
theorem nd__law_meet : (["readings", "one"] : List Str).Nodup := sc__law_meet.nd
theorem kd__law_meet : (defScope st__law_meet).kind = .function := rfl
theorem lk__law_meet_max : (defScope st__law_meet).names.lookup ("max" : Str) = some .globalImplicit := by decide +kernel
theorem lk__law_meet_min : (defScope st__law_meet).names.lookup ("min" : Str) = some .globalImplicit := by decide +kernel
theorem lk__law_meet_readings : (defScope st__law_meet).names.lookup ("readings" : Str) = some .local := by decide +kernel
theorem cal__law_meet (T : Txt K mg) : Cal0 P w K mg base 1 "_law_meet" 1 m__law_meet := by
  refine Cal0.of (k := 0) (m := 1) (f := b__law_meet) T.fn__law_meet sc__law_meet rfl rfl fun H0 => ?_
  exact (ss_one (s_ret (e_tup (a_cons (e_cb (fun _ A => c_max1 A) T.no_max rfl (a_cons (e_lc (own := [("one", 1)]) nd__law_meet (by dsimp only; decide +kernel) rfl rfl (i_val (e_var (i := 0) rfl (Or.inl lk__law_meet_readings))) (fun _ => (g_nm ⟨nd__law_meet, rfl, (by first | exact Or.inl rfl | exact Or.inr rfl), (by first | exact Or.inl rfl | exact Or.inr rfl)⟩)) (fun _ => ts_no) (fun _ => (e_ix (e_var (i := 1) rfl ) e_int))) a_nil) lk__law_meet_max) (a_cons (e_cb (fun _ A => c_min1 A) T.no_min rfl (a_cons (e_lc (own := [("one", 1)]) nd__law_meet (by dsimp only; decide +kernel) rfl rfl (i_val (e_var (i := 0) rfl (Or.inl lk__law_meet_readings))) (fun _ => (g_nm ⟨nd__law_meet, rfl, (by first | exact Or.inl rfl | exact Or.inr rfl), (by first | exact Or.inl rfl | exact Or.inr rfl)⟩)) (fun _ => ts_no) (fun _ => (e_ix (e_var (i := 1) rfl ) e_int))) a_nil) lk__law_meet_min) a_nil)))))
theorem sc__law_ends : FnScope ["terms", "least", "greatest", "term", "bounds"] ["terms"] (defScope st__law_ends) := ⟨rfl, rfl, rfl, by decide +kernel, rfl, by decide +kernel, by decide +kernel⟩
theorem nd__law_ends : (["terms", "least", "greatest", "term", "bounds"] : List Str).Nodup := sc__law_ends.nd
theorem kd__law_ends : (defScope st__law_ends).kind = .function := rfl
theorem lk__law_ends__law_meet : (defScope st__law_ends).names.lookup ("_law_meet" : Str) = some .globalImplicit := by decide +kernel
theorem lk__law_ends_bounds : (defScope st__law_ends).names.lookup ("bounds" : Str) = some .local := by decide +kernel
theorem lk__law_ends_greatest : (defScope st__law_ends).names.lookup ("greatest" : Str) = some .local := by decide +kernel
theorem lk__law_ends_least : (defScope st__law_ends).names.lookup ("least" : Str) = some .local := by decide +kernel
theorem lk__law_ends_term : (defScope st__law_ends).names.lookup ("term" : Str) = some .local := by decide +kernel
theorem lk__law_ends_terms : (defScope st__law_ends).names.lookup ("terms" : Str) = some .local := by decide +kernel
theorem cal__law_ends (T : Txt K mg) : Cal0 P w K mg base 2 "_law_ends" 1 m__law_ends := by
  refine Cal0.of (k := 1) (m := 4) (f := b__law_ends) T.fn__law_ends sc__law_ends rfl rfl fun H0 => ?_
  have h__law_meet : Cal ⟨P, w, K, mg, base, ["terms", "least", "greatest", "term", "bounds"], defScope st__law_ends, fun _ => true, 1, H0, []⟩ "_law_meet" 1 m__law_meet := (cal__law_meet T).cal (by decide)
  exact (ss_cons (s_set ⟨nd__law_ends, rfl, Or.inl lk__law_ends_least, Or.inl rfl⟩ e_int) (ss_cons (s_set ⟨nd__law_ends, rfl, Or.inl lk__law_ends_greatest, Or.inl rfl⟩ e_int) (ss_cons (s_for (i_val (e_var (i := 0) rfl (Or.inl lk__law_ends_terms))) (g_nm ⟨nd__law_ends, rfl, Or.inl lk__law_ends_term, Or.inl rfl⟩) (ss_cons (s_set ⟨nd__law_ends, rfl, Or.inl lk__law_ends_bounds, Or.inl rfl⟩ (e_call h__law_meet (a_cons (e_ix (e_var (i := 3) rfl (Or.inl lk__law_ends_term)) e_int) a_nil) lk__law_ends__law_meet)) (ss_one (s_if (t_cmp (fun _ A => o_eq A) (e_ix (e_var (i := 3) rfl (Or.inl lk__law_ends_term)) e_int) e_int) (ss_cons (s_set ⟨nd__law_ends, rfl, Or.inl lk__law_ends_least, Or.inl rfl⟩ (e_bin (fun _ A => o_add A) (e_var (i := 1) rfl (Or.inl lk__law_ends_least)) (e_ix (e_var (i := 4) rfl (Or.inl lk__law_ends_bounds)) e_int))) (ss_one (s_set ⟨nd__law_ends, rfl, Or.inl lk__law_ends_greatest, Or.inl rfl⟩ (e_bin (fun _ A => o_add A) (e_var (i := 2) rfl (Or.inl lk__law_ends_greatest)) (e_ix (e_var (i := 4) rfl (Or.inl lk__law_ends_bounds)) e_int))))) (ss_cons (s_set ⟨nd__law_ends, rfl, Or.inl lk__law_ends_least, Or.inl rfl⟩ (e_bin (fun _ A => o_sub A) (e_var (i := 1) rfl (Or.inl lk__law_ends_least)) (e_ix (e_var (i := 4) rfl (Or.inl lk__law_ends_bounds)) e_int))) (ss_one (s_set ⟨nd__law_ends, rfl, Or.inl lk__law_ends_greatest, Or.inl rfl⟩ (e_bin (fun _ A => o_sub A) (e_var (i := 2) rfl (Or.inl lk__law_ends_greatest)) (e_ix (e_var (i := 4) rfl (Or.inl lk__law_ends_bounds)) e_int))))))))) (ss_one (s_ret (e_tup (a_cons (e_var (i := 1) rfl (Or.inl lk__law_ends_least)) (a_cons (e_var (i := 2) rfl (Or.inl lk__law_ends_greatest)) a_nil))))))))
theorem sc__law_total : FnScope ["pool", "k", "terms", "ends", "span", "low"] ["pool", "k", "terms"] (defScope st__law_total) := ⟨rfl, rfl, rfl, by decide +kernel, rfl, by decide +kernel, by decide +kernel⟩
theorem nd__law_total : (["pool", "k", "terms", "ends", "span", "low"] : List Str).Nodup := sc__law_total.nd
theorem kd__law_total : (defScope st__law_total).kind = .function := rfl
theorem lk__law_total__law_at : (defScope st__law_total).names.lookup ("_law_at" : Str) = some .globalImplicit := by decide +kernel
theorem lk__law_total__law_ends : (defScope st__law_total).names.lookup ("_law_ends" : Str) = some .globalImplicit := by decide +kernel
theorem lk__law_total_abs : (defScope st__law_total).names.lookup ("abs" : Str) = some .globalImplicit := by decide +kernel
theorem lk__law_total_ends : (defScope st__law_total).names.lookup ("ends" : Str) = some .local := by decide +kernel
theorem lk__law_total_int : (defScope st__law_total).names.lookup ("int" : Str) = some .globalImplicit := by decide +kernel
theorem lk__law_total_k : (defScope st__law_total).names.lookup ("k" : Str) = some .local := by decide +kernel
theorem lk__law_total_low : (defScope st__law_total).names.lookup ("low" : Str) = some .local := by decide +kernel
theorem lk__law_total_min : (defScope st__law_total).names.lookup ("min" : Str) = some .globalImplicit := by decide +kernel
theorem lk__law_total_pool : (defScope st__law_total).names.lookup ("pool" : Str) = some .local := by decide +kernel
theorem lk__law_total_span : (defScope st__law_total).names.lookup ("span" : Str) = some .local := by decide +kernel
theorem lk__law_total_terms : (defScope st__law_total).names.lookup ("terms" : Str) = some .local := by decide +kernel
theorem cal__law_total (T : Txt K mg) : Cal0 P w K mg base 3 "_law_total" 3 m__law_total := by
  refine Cal0.of (k := 2) (m := 3) (f := b__law_total) T.fn__law_total sc__law_total rfl rfl fun H0 => ?_
  have h__law_at : Cal ⟨P, w, K, mg, base, ["pool", "k", "terms", "ends", "span", "low"], defScope st__law_total, fun _ => true, 2, H0, []⟩ "_law_at" 2 m__law_at := (cal__law_at T).cal (by decide)
  have h__law_ends : Cal ⟨P, w, K, mg, base, ["pool", "k", "terms", "ends", "span", "low"], defScope st__law_total, fun _ => true, 2, H0, []⟩ "_law_ends" 1 m__law_ends := (cal__law_ends T).cal (by decide)
  exact (ss_cons (s_set ⟨nd__law_total, rfl, Or.inl lk__law_total_ends, Or.inl rfl⟩ (e_call h__law_ends (a_cons (e_var (i := 2) rfl (Or.inl lk__law_total_terms)) a_nil) lk__law_total__law_ends)) (ss_cons (s_set ⟨nd__law_total, rfl, Or.inl lk__law_total_span, Or.inl rfl⟩ (e_cb (fun _ A => c_abs A) T.no_abs rfl (a_cons (e_bin (fun _ A => o_sub A) (e_ix (e_var (i := 3) rfl (Or.inl lk__law_total_ends)) e_int) (e_ix (e_var (i := 3) rfl (Or.inl lk__law_total_ends)) e_int)) a_nil) lk__law_total_abs)) (ss_cons (s_set ⟨nd__law_total, rfl, Or.inl lk__law_total_low, Or.inl rfl⟩ (e_bin (fun _ A => o_add A) (e_bin (fun _ A => o_sub A) (e_cb (fun _ A => c_min1 A) T.no_min rfl (a_cons (e_var (i := 3) rfl (Or.inl lk__law_total_ends)) a_nil) lk__law_total_min) e_int) (e_bin (fun _ A => o_mod A) (e_cty (fun _ A => c_int A) T.no_int rfl (a_cons (e_call h__law_at (a_cons (e_var (i := 0) rfl (Or.inl lk__law_total_pool)) (a_cons (e_var (i := 1) rfl (Or.inl lk__law_total_k)) a_nil)) lk__law_total__law_at) a_nil) lk__law_total_int) (e_bin (fun _ A => o_add A) (e_var (i := 4) rfl (Or.inl lk__law_total_span)) e_int)))) (ss_one (s_ret (e_tup (a_cons (e_var (i := 5) rfl (Or.inl lk__law_total_low)) (a_cons (e_bin (fun _ A => o_add A) (e_var (i := 5) rfl (Or.inl lk__law_total_low)) (e_bin (fun _ A => o_mod A) (e_cty (fun _ A => c_int A) T.no_int rfl (a_cons (e_call h__law_at (a_cons (e_var (i := 0) rfl (Or.inl lk__law_total_pool)) (a_cons (e_bin (fun _ A => o_add A) (e_var (i := 1) rfl (Or.inl lk__law_total_k)) e_int) a_nil)) lk__law_total__law_at) a_nil) lk__law_total_int) e_int)) a_nil))))))))
theorem sc__law_ratio : FnScope ["value", "unit", "a", "b", "k", "rest"] ["value", "unit"] (defScope st__law_ratio) := ⟨rfl, rfl, rfl, by decide +kernel, rfl, by decide +kernel, by decide +kernel⟩
theorem nd__law_ratio : (["value", "unit", "a", "b", "k", "rest"] : List Str).Nodup := sc__law_ratio.nd
theorem kd__law_ratio : (defScope st__law_ratio).kind = .function := rfl
theorem lk__law_ratio_a : (defScope st__law_ratio).names.lookup ("a" : Str) = some .local := by decide +kernel
theorem lk__law_ratio_abs : (defScope st__law_ratio).names.lookup ("abs" : Str) = some .globalImplicit := by decide +kernel
theorem lk__law_ratio_b : (defScope st__law_ratio).names.lookup ("b" : Str) = some .local := by decide +kernel
theorem lk__law_ratio_int : (defScope st__law_ratio).names.lookup ("int" : Str) = some .globalImplicit := by decide +kernel
theorem lk__law_ratio_k : (defScope st__law_ratio).names.lookup ("k" : Str) = some .local := by decide +kernel
theorem lk__law_ratio_range : (defScope st__law_ratio).names.lookup ("range" : Str) = some .globalImplicit := by decide +kernel
theorem lk__law_ratio_rest : (defScope st__law_ratio).names.lookup ("rest" : Str) = some .local := by decide +kernel
theorem lk__law_ratio_unit : (defScope st__law_ratio).names.lookup ("unit" : Str) = some .local := by decide +kernel
theorem lk__law_ratio_value : (defScope st__law_ratio).names.lookup ("value" : Str) = some .local := by decide +kernel
theorem cal__law_ratio (T : Txt K mg) : Cal0 P w K mg base 1 "_law_ratio" 2 m__law_ratio := by
  refine Cal0.of (k := 0) (m := 4) (f := b__law_ratio) T.fn__law_ratio sc__law_ratio rfl rfl fun H0 => ?_
  exact (ss_cons (s_set ⟨nd__law_ratio, rfl, Or.inl lk__law_ratio_a, Or.inl rfl⟩ (e_cb (fun _ A => c_abs A) T.no_abs rfl (a_cons (e_var (i := 0) rfl (Or.inl lk__law_ratio_value)) a_nil) lk__law_ratio_abs)) (ss_cons (s_set ⟨nd__law_ratio, rfl, Or.inl lk__law_ratio_b, Or.inl rfl⟩ (e_var (i := 1) rfl (Or.inl lk__law_ratio_unit))) (ss_cons (s_for (i_rg1 T.no_range (a_cons e_int a_nil) lk__law_ratio_range) (g_nm ⟨nd__law_ratio, rfl, Or.inl lk__law_ratio_k, Or.inl rfl⟩) (ss_one (s_if (t_cmp (fun _ A => o_gt A) (e_var (i := 3) rfl (Or.inl lk__law_ratio_b)) e_int) (ss_cons (s_set ⟨nd__law_ratio, rfl, Or.inl lk__law_ratio_rest, Or.inl rfl⟩ (e_bin (fun _ A => o_mod A) (e_cty (fun _ A => c_int A) T.no_int rfl (a_cons (e_var (i := 2) rfl (Or.inl lk__law_ratio_a)) a_nil) lk__law_ratio_int) (e_var (i := 3) rfl (Or.inl lk__law_ratio_b)))) (ss_cons (s_set ⟨nd__law_ratio, rfl, Or.inl lk__law_ratio_a, Or.inl rfl⟩ (e_var (i := 3) rfl (Or.inl lk__law_ratio_b))) (ss_one (s_set ⟨nd__law_ratio, rfl, Or.inl lk__law_ratio_b, Or.inl rfl⟩ (e_var (i := 5) rfl (Or.inl lk__law_ratio_rest)))))) ss_nil))) (ss_one (s_ret (e_tup (a_cons (e_bin (fun _ A => o_div A) (e_var (i := 0) rfl (Or.inl lk__law_ratio_value)) (e_var (i := 2) rfl (Or.inl lk__law_ratio_a))) (a_cons (e_bin (fun _ A => o_div A) (e_var (i := 1) rfl (Or.inl lk__law_ratio_unit)) (e_var (i := 2) rfl (Or.inl lk__law_ratio_a))) a_nil))))))))
theorem sc__law_as_reading : FnScope ["pair", "unit"] ["pair", "unit"] (defScope st__law_as_reading) := ⟨rfl, rfl, rfl, by decide +kernel, rfl, by decide +kernel, by decide +kernel⟩
theorem nd__law_as_reading : (["pair", "unit"] : List Str).Nodup := sc__law_as_reading.nd
theorem kd__law_as_reading : (defScope st__law_as_reading).kind = .function := rfl
theorem lk__law_as_reading__law_ratio : (defScope st__law_as_reading).names.lookup ("_law_ratio" : Str) = some .globalImplicit := by decide +kernel
theorem lk__law_as_reading_pair : (defScope st__law_as_reading).names.lookup ("pair" : Str) = some .local := by decide +kernel
theorem lk__law_as_reading_unit : (defScope st__law_as_reading).names.lookup ("unit" : Str) = some .local := by decide +kernel
theorem cal__law_as_reading (T : Txt K mg) : Cal0 P w K mg base 2 "_law_as_reading" 2 m__law_as_reading := by
  refine Cal0.of (k := 1) (m := 0) (f := b__law_as_reading) T.fn__law_as_reading sc__law_as_reading rfl rfl fun H0 => ?_
  have h__law_ratio : Cal ⟨P, w, K, mg, base, ["pair", "unit"], defScope st__law_as_reading, fun _ => true, 1, H0, []⟩ "_law_ratio" 2 m__law_ratio := (cal__law_ratio T).cal (by decide)
  exact (ss_one (s_ret (e_tup (a_cons (e_call h__law_ratio (a_cons (e_ix (e_var (i := 0) rfl (Or.inl lk__law_as_reading_pair)) e_int) (a_cons (e_var (i := 1) rfl (Or.inl lk__law_as_reading_unit)) a_nil)) lk__law_as_reading__law_ratio) (a_cons (e_call h__law_ratio (a_cons (e_ix (e_var (i := 0) rfl (Or.inl lk__law_as_reading_pair)) e_int) (a_cons (e_var (i := 1) rfl (Or.inl lk__law_as_reading_unit)) a_nil)) lk__law_as_reading__law_ratio) a_nil)))))
theorem sc__law_subject : FnScope ["terms", "total_v", "unit", "found", "term", "pair"] ["terms", "total_v", "unit"] (defScope st__law_subject) := ⟨rfl, rfl, rfl, by decide +kernel, rfl, by decide +kernel, by decide +kernel⟩
theorem nd__law_subject : (["terms", "total_v", "unit", "found", "term", "pair"] : List Str).Nodup := sc__law_subject.nd
theorem kd__law_subject : (defScope st__law_subject).kind = .function := rfl
theorem lk__law_subject__law_as_reading : (defScope st__law_subject).names.lookup ("_law_as_reading" : Str) = some .globalImplicit := by decide +kernel
theorem lk__law_subject_found : (defScope st__law_subject).names.lookup ("found" : Str) = some .local := by decide +kernel
theorem lk__law_subject_term : (defScope st__law_subject).names.lookup ("term" : Str) = some .local := by decide +kernel
theorem lk__law_subject_terms : (defScope st__law_subject).names.lookup ("terms" : Str) = some .local := by decide +kernel
theorem lk__law_subject_total_v : (defScope st__law_subject).names.lookup ("total_v" : Str) = some .local := by decide +kernel
theorem lk__law_subject_tuple : (defScope st__law_subject).names.lookup ("tuple" : Str) = some .globalImplicit := by decide +kernel
theorem lk__law_subject_unit : (defScope st__law_subject).names.lookup ("unit" : Str) = some .cell := by decide +kernel
theorem cal__law_subject (T : Txt K mg) : Cal0 P w K mg base 3 "_law_subject" 3 m__law_subject := by
  refine Cal0.of (k := 2) (m := 3) (f := b__law_subject) T.fn__law_subject sc__law_subject rfl rfl fun H0 => ?_
  have h__law_as_reading : Cal ⟨P, w, K, mg, base, ["terms", "total_v", "unit", "found", "term", "pair"], defScope st__law_subject, fun _ => true, 2, H0, []⟩ "_law_as_reading" 2 m__law_as_reading := (cal__law_as_reading T).cal (by decide)
  exact (ss_cons (s_set ⟨nd__law_subject, rfl, Or.inl lk__law_subject_found, Or.inl rfl⟩ (e_lst a_nil)) (ss_cons (s_for (i_val (e_var (i := 0) rfl (Or.inl lk__law_subject_terms))) (g_nm ⟨nd__law_subject, rfl, Or.inl lk__law_subject_term, Or.inl rfl⟩) (ss_one (s_ex (e_ml (i := 3) PySem.F.slot_list_append PySem.F.type_list_append (fun _ A => m_append A) (a_cons (e_tup (a_cons (e_ix (e_var (i := 4) rfl (Or.inl lk__law_subject_term)) e_int) (a_cons (e_cty (fun _ A => c_tup A) T.no_tuple rfl (a_cons (e_lc (own := [("pair", 5)]) nd__law_subject (by dsimp only; decide +kernel) rfl rfl (i_val (e_ix (e_var (i := 4) rfl (Or.inl lk__law_subject_term)) e_int)) (fun _ => (g_nm ⟨nd__law_subject, rfl, (by first | exact Or.inl rfl | exact Or.inr rfl), (by first | exact Or.inl rfl | exact Or.inr rfl)⟩)) (fun _ => ts_no) (fun _ => (e_call ⟨h__law_as_reading.ex⟩ (a_cons (e_var (i := 5) rfl ) (a_cons (e_var (i := 2) rfl ) a_nil)) ))) a_nil) lk__law_subject_tuple) a_nil))) a_nil) rfl (Or.inl lk__law_subject_found))))) (ss_one (s_ret (e_tup (a_cons (e_cty (fun _ A => c_tup A) T.no_tuple rfl (a_cons (e_var (i := 3) rfl (Or.inl lk__law_subject_found)) a_nil) lk__law_subject_tuple) (a_cons (e_call h__law_as_reading (a_cons (e_var (i := 1) rfl (Or.inl lk__law_subject_total_v)) (a_cons (e_var (i := 2) rfl (Or.inr (Or.inl lk__law_subject_unit))) a_nil)) lk__law_subject__law_as_reading) a_nil)))))))
theorem sc__law_apart : FnScope ["terms", "t", "bounds", "highs", "lows", "one"] ["terms"] (defScope st__law_apart) := ⟨rfl, rfl, rfl, by decide +kernel, rfl, by decide +kernel, by decide +kernel⟩
theorem nd__law_apart : (["terms", "t", "bounds", "highs", "lows", "one"] : List Str).Nodup := sc__law_apart.nd
theorem kd__law_apart : (defScope st__law_apart).kind = .function := rfl
theorem lk__law_apart__law_meet : (defScope st__law_apart).names.lookup ("_law_meet" : Str) = some .globalImplicit := by decide +kernel
theorem lk__law_apart_bounds : (defScope st__law_apart).names.lookup ("bounds" : Str) = some .local := by decide +kernel
theorem lk__law_apart_highs : (defScope st__law_apart).names.lookup ("highs" : Str) = some .local := by decide +kernel
theorem lk__law_apart_len : (defScope st__law_apart).names.lookup ("len" : Str) = some .globalImplicit := by decide +kernel
theorem lk__law_apart_lows : (defScope st__law_apart).names.lookup ("lows" : Str) = some .local := by decide +kernel
theorem lk__law_apart_range : (defScope st__law_apart).names.lookup ("range" : Str) = some .globalImplicit := by decide +kernel
theorem lk__law_apart_t : (defScope st__law_apart).names.lookup ("t" : Str) = some .local := by decide +kernel
theorem lk__law_apart_terms : (defScope st__law_apart).names.lookup ("terms" : Str) = some .local := by decide +kernel
theorem cal__law_apart (T : Txt K mg) : Cal0 P w K mg base 2 "_law_apart" 1 m__law_apart := by
  refine Cal0.of (k := 1) (m := 5) (f := b__law_apart) T.fn__law_apart sc__law_apart rfl rfl fun H0 => ?_
  have h__law_meet : Cal ⟨P, w, K, mg, base, ["terms", "t", "bounds", "highs", "lows", "one"], defScope st__law_apart, fun _ => true, 1, H0, []⟩ "_law_meet" 1 m__law_meet := (cal__law_meet T).cal (by decide)
  exact (ss_cons (s_for (i_rg1 T.no_range (a_cons (e_cb (fun _ A => c_len1 A) T.no_len rfl (a_cons (e_var (i := 0) rfl (Or.inl lk__law_apart_terms)) a_nil) lk__law_apart_len) a_nil) lk__law_apart_range) (g_nm ⟨nd__law_apart, rfl, Or.inl lk__law_apart_t, Or.inl rfl⟩) (ss_cons (s_set ⟨nd__law_apart, rfl, Or.inl lk__law_apart_bounds, Or.inl rfl⟩ (e_call h__law_meet (a_cons (e_ix (e_ix (e_var (i := 0) rfl (Or.inl lk__law_apart_terms)) (e_var (i := 1) rfl (Or.inl lk__law_apart_t))) e_int) a_nil) lk__law_apart__law_meet)) (ss_one (s_if (t_cmp (fun _ A => o_gt A) (e_ix (e_var (i := 2) rfl (Or.inl lk__law_apart_bounds)) e_int) (e_ix (e_var (i := 2) rfl (Or.inl lk__law_apart_bounds)) e_int)) (ss_cons (s_lc (own := [("one", 5)]) ⟨nd__law_apart, rfl, Or.inl lk__law_apart_highs, Or.inl rfl⟩ lk__law_apart_highs rfl (by decide +kernel) kd__law_apart (by dsimp only; decide +kernel) rfl rfl (i_val (e_ix (e_ix (e_var (i := 0) rfl (Or.inl lk__law_apart_terms)) (e_var (i := 1) rfl (Or.inl lk__law_apart_t))) e_int)) (fun _ => (g_nm ⟨nd__law_apart, rfl, (by first | exact Or.inl rfl | exact Or.inr rfl), (by first | exact Or.inl rfl | exact Or.inr rfl)⟩)) (fun _ => ts_no) (fun _ => (e_ix (e_var (i := 5) rfl ) e_int))) (ss_cons (s_lc (own := [("one", 5)]) ⟨nd__law_apart, rfl, Or.inl lk__law_apart_lows, Or.inl rfl⟩ lk__law_apart_lows rfl (by decide +kernel) kd__law_apart (by dsimp only; decide +kernel) rfl rfl (i_val (e_ix (e_ix (e_var (i := 0) rfl (Or.inl lk__law_apart_terms)) (e_var (i := 1) rfl (Or.inl lk__law_apart_t))) e_int)) (fun _ => (g_nm ⟨nd__law_apart, rfl, (by first | exact Or.inl rfl | exact Or.inr rfl), (by first | exact Or.inl rfl | exact Or.inr rfl)⟩)) (fun _ => ts_no) (fun _ => (e_ix (e_var (i := 5) rfl ) e_int))) (ss_one (s_ret (e_tup (a_cons e_str (a_cons (e_var (i := 1) rfl (Or.inl lk__law_apart_t)) (a_cons (e_ml (i := 3) PySem.F.slot_list_index PySem.F.type_list_index (fun _ A => m_index' A) (a_cons (e_ix (e_var (i := 2) rfl (Or.inl lk__law_apart_bounds)) e_int) a_nil) rfl (Or.inl lk__law_apart_highs)) (a_cons (e_ml (i := 4) PySem.F.slot_list_index PySem.F.type_list_index (fun _ A => m_index' A) (a_cons (e_ix (e_var (i := 2) rfl (Or.inl lk__law_apart_bounds)) e_int) a_nil) rfl (Or.inl lk__law_apart_lows)) a_nil))))))))) ss_nil)))) (ss_one (s_ret e_non)))
theorem sc__law_values : FnScope ["terms", "wanted", "held", "at", "values", "t", "lack", "bounds", "more"] ["terms", "wanted", "held", "at"] (defScope st__law_values) := ⟨rfl, rfl, rfl, by decide +kernel, rfl, by decide +kernel, by decide +kernel⟩
theorem nd__law_values : (["terms", "wanted", "held", "at", "values", "t", "lack", "bounds", "more"] : List Str).Nodup := sc__law_values.nd
theorem kd__law_values : (defScope st__law_values).kind = .function := rfl
theorem lk__law_values__law_meet : (defScope st__law_values).names.lookup ("_law_meet" : Str) = some .globalImplicit := by decide +kernel
theorem lk__law_values_at : (defScope st__law_values).names.lookup ("at" : Str) = some .local := by decide +kernel
theorem lk__law_values_bounds : (defScope st__law_values).names.lookup ("bounds" : Str) = some .local := by decide +kernel
theorem lk__law_values_held : (defScope st__law_values).names.lookup ("held" : Str) = some .local := by decide +kernel
theorem lk__law_values_lack : (defScope st__law_values).names.lookup ("lack" : Str) = some .local := by decide +kernel
theorem lk__law_values_len : (defScope st__law_values).names.lookup ("len" : Str) = some .globalImplicit := by decide +kernel
theorem lk__law_values_min : (defScope st__law_values).names.lookup ("min" : Str) = some .globalImplicit := by decide +kernel
theorem lk__law_values_more : (defScope st__law_values).names.lookup ("more" : Str) = some .local := by decide +kernel
theorem lk__law_values_range : (defScope st__law_values).names.lookup ("range" : Str) = some .globalImplicit := by decide +kernel
theorem lk__law_values_sum : (defScope st__law_values).names.lookup ("sum" : Str) = some .globalImplicit := by decide +kernel
theorem lk__law_values_t : (defScope st__law_values).names.lookup ("t" : Str) = some .local := by decide +kernel
theorem lk__law_values_terms : (defScope st__law_values).names.lookup ("terms" : Str) = some .cell := by decide +kernel
theorem lk__law_values_values : (defScope st__law_values).names.lookup ("values" : Str) = some .cell := by decide +kernel
theorem lk__law_values_wanted : (defScope st__law_values).names.lookup ("wanted" : Str) = some .local := by decide +kernel
theorem cal__law_values (T : Txt K mg) : Cal0 P w K mg base 2 "_law_values" 4 m__law_values := by
  refine Cal0.of (k := 1) (m := 5) (f := b__law_values) T.fn__law_values sc__law_values rfl rfl fun H0 => ?_
  have h__law_meet : Cal ⟨P, w, K, mg, base, ["terms", "wanted", "held", "at", "values", "t", "lack", "bounds", "more"], defScope st__law_values, fun _ => true, 1, H0, []⟩ "_law_meet" 1 m__law_meet := (cal__law_meet T).cal (by decide)
  exact (ss_cons (s_set ⟨nd__law_values, rfl, Or.inr lk__law_values_values, Or.inl rfl⟩ (e_lst a_nil)) (ss_cons (s_for (i_rg1 T.no_range (a_cons (e_cb (fun _ A => c_len1 A) T.no_len rfl (a_cons (e_var (i := 0) rfl (Or.inr (Or.inl lk__law_values_terms))) a_nil) lk__law_values_len) a_nil) lk__law_values_range) (g_nm ⟨nd__law_values, rfl, Or.inl lk__law_values_t, Or.inl rfl⟩) (ss_cons (s_set ⟨nd__law_values, rfl, Or.inl lk__law_values_bounds, Or.inl rfl⟩ (e_call h__law_meet (a_cons (e_ix (e_ix (e_var (i := 0) rfl (Or.inr (Or.inl lk__law_values_terms))) (e_var (i := 5) rfl (Or.inl lk__law_values_t))) e_int) a_nil) lk__law_values__law_meet)) (ss_one (s_if (t_cmp (fun _ A => o_eq A) (e_var (i := 5) rfl (Or.inl lk__law_values_t)) (e_var (i := 2) rfl (Or.inl lk__law_values_held))) (ss_one (s_ex (e_ml (i := 4) PySem.F.slot_list_append PySem.F.type_list_append (fun _ A => m_append A) (a_cons (e_var (i := 3) rfl (Or.inl lk__law_values_at)) a_nil) rfl (Or.inr (Or.inl lk__law_values_values))))) (ss_one (s_if (t_cmp (fun _ A => o_eq A) (e_ix (e_ix (e_var (i := 0) rfl (Or.inr (Or.inl lk__law_values_terms))) (e_var (i := 5) rfl (Or.inl lk__law_values_t))) e_int) e_int) (ss_one (s_ex (e_ml (i := 4) PySem.F.slot_list_append PySem.F.type_list_append (fun _ A => m_append A) (a_cons (e_ix (e_var (i := 7) rfl (Or.inl lk__law_values_bounds)) e_int) a_nil) rfl (Or.inr (Or.inl lk__law_values_values))))) (ss_one (s_ex (e_ml (i := 4) PySem.F.slot_list_append PySem.F.type_list_append (fun _ A => m_append A) (a_cons (e_ix (e_var (i := 7) rfl (Or.inl lk__law_values_bounds)) e_int) a_nil) rfl (Or.inr (Or.inl lk__law_values_values))))))))))) (ss_cons (s_set ⟨nd__law_values, rfl, Or.inl lk__law_values_lack, Or.inl rfl⟩ (e_bin (fun _ A => o_sub A) (e_var (i := 1) rfl (Or.inl lk__law_values_wanted)) (e_cb (fun _ A => c_sum A) T.no_sum rfl (a_cons (e_lc (own := [("t", 5)]) nd__law_values (by dsimp only; decide +kernel) rfl rfl (i_rg1 T.no_range (a_cons (e_cb (fun _ A => c_len1 A) T.no_len rfl (a_cons (e_var (i := 0) rfl (Or.inr (Or.inl lk__law_values_terms))) a_nil) lk__law_values_len) a_nil) lk__law_values_range) (fun _ => (g_nm ⟨nd__law_values, rfl, (by first | exact Or.inl rfl | exact Or.inr rfl), (by first | exact Or.inl rfl | exact Or.inr rfl)⟩)) (fun _ => ts_no) (fun _ => (e_bin (fun _ A => o_mul A) (e_ix (e_ix (e_var (i := 0) rfl ) (e_var (i := 5) rfl )) e_int) (e_ix (e_var (i := 4) rfl ) (e_var (i := 5) rfl ))))) a_nil) lk__law_values_sum))) (ss_cons (s_for (i_rg1 T.no_range (a_cons (e_cb (fun _ A => c_len1 A) T.no_len rfl (a_cons (e_var (i := 0) rfl (Or.inr (Or.inl lk__law_values_terms))) a_nil) lk__law_values_len) a_nil) lk__law_values_range) (g_nm ⟨nd__law_values, rfl, Or.inl lk__law_values_t, Or.inl rfl⟩) (ss_cons (s_set ⟨nd__law_values, rfl, Or.inl lk__law_values_bounds, Or.inl rfl⟩ (e_call h__law_meet (a_cons (e_ix (e_ix (e_var (i := 0) rfl (Or.inr (Or.inl lk__law_values_terms))) (e_var (i := 5) rfl (Or.inl lk__law_values_t))) e_int) a_nil) lk__law_values__law_meet)) (ss_one (s_if (t_w (w_and (t_cmp (fun _ A => o_ne A) (e_var (i := 5) rfl (Or.inl lk__law_values_t)) (e_var (i := 2) rfl (Or.inl lk__law_values_held))) (w_and1 (t_cmp (fun _ A => o_gt A) (e_var (i := 6) rfl (Or.inl lk__law_values_lack)) e_int)))) (ss_cons (s_set ⟨nd__law_values, rfl, Or.inl lk__law_values_more, Or.inl rfl⟩ (e_cb (fun _ A => c_min A) T.no_min rfl (a_cons (e_var (i := 6) rfl (Or.inl lk__law_values_lack)) (a_cons (e_bin (fun _ A => o_sub A) (e_ix (e_var (i := 7) rfl (Or.inl lk__law_values_bounds)) e_int) (e_ix (e_var (i := 7) rfl (Or.inl lk__law_values_bounds)) e_int)) a_nil)) lk__law_values_min)) (ss_cons (s_asg (e_bin (fun _ A => o_add A) (e_ix (e_var (i := 4) rfl (Or.inr (Or.inl lk__law_values_values))) (e_var (i := 5) rfl (Or.inl lk__law_values_t))) (e_bin (fun _ A => o_mul A) (e_ix (e_ix (e_var (i := 0) rfl (Or.inr (Or.inl lk__law_values_terms))) (e_var (i := 5) rfl (Or.inl lk__law_values_t))) e_int) (e_var (i := 8) rfl (Or.inl lk__law_values_more)))) (g_sub (i := 4) (e_var (i := 5) rfl (Or.inl lk__law_values_t)) rfl (Or.inr (Or.inl lk__law_values_values)))) (ss_one (s_set ⟨nd__law_values, rfl, Or.inl lk__law_values_lack, Or.inl rfl⟩ (e_bin (fun _ A => o_sub A) (e_var (i := 6) rfl (Or.inl lk__law_values_lack)) (e_var (i := 8) rfl (Or.inl lk__law_values_more))))))) ss_nil)))) (ss_one (s_ret (e_var (i := 4) rfl (Or.inr (Or.inl lk__law_values_values)))))))))
theorem sc__law_due : FnScope ["terms", "total_v", "unit", "paper", "ends", "value"] ["terms", "total_v", "unit"] (defScope st__law_due) := ⟨rfl, rfl, rfl, by decide +kernel, rfl, by decide +kernel, by decide +kernel⟩
theorem nd__law_due : (["terms", "total_v", "unit", "paper", "ends", "value"] : List Str).Nodup := sc__law_due.nd
theorem kd__law_due : (defScope st__law_due).kind = .function := rfl
theorem lk__law_due__law_apart : (defScope st__law_due).names.lookup ("_law_apart" : Str) = some .globalImplicit := by decide +kernel
theorem lk__law_due__law_ends : (defScope st__law_due).names.lookup ("_law_ends" : Str) = some .globalImplicit := by decide +kernel
theorem lk__law_due__law_ratio : (defScope st__law_due).names.lookup ("_law_ratio" : Str) = some .globalImplicit := by decide +kernel
theorem lk__law_due__law_values : (defScope st__law_due).names.lookup ("_law_values" : Str) = some .globalImplicit := by decide +kernel
theorem lk__law_due_ends : (defScope st__law_due).names.lookup ("ends" : Str) = some .local := by decide +kernel
theorem lk__law_due_paper : (defScope st__law_due).names.lookup ("paper" : Str) = some .local := by decide +kernel
theorem lk__law_due_terms : (defScope st__law_due).names.lookup ("terms" : Str) = some .local := by decide +kernel
theorem lk__law_due_total_v : (defScope st__law_due).names.lookup ("total_v" : Str) = some .local := by decide +kernel
theorem lk__law_due_tuple : (defScope st__law_due).names.lookup ("tuple" : Str) = some .globalImplicit := by decide +kernel
theorem lk__law_due_unit : (defScope st__law_due).names.lookup ("unit" : Str) = some .cell := by decide +kernel
theorem cal__law_due (T : Txt K mg) : Cal0 P w K mg base 3 "_law_due" 3 m__law_due := by
  refine Cal0.of (k := 2) (m := 3) (f := b__law_due) T.fn__law_due sc__law_due rfl rfl fun H0 => ?_
  have h__law_ends : Cal ⟨P, w, K, mg, base, ["terms", "total_v", "unit", "paper", "ends", "value"], defScope st__law_due, fun _ => true, 2, H0, []⟩ "_law_ends" 1 m__law_ends := (cal__law_ends T).cal (by decide)
  have h__law_ratio : Cal ⟨P, w, K, mg, base, ["terms", "total_v", "unit", "paper", "ends", "value"], defScope st__law_due, fun _ => true, 2, H0, []⟩ "_law_ratio" 2 m__law_ratio := (cal__law_ratio T).cal (by decide)
  have h__law_apart : Cal ⟨P, w, K, mg, base, ["terms", "total_v", "unit", "paper", "ends", "value"], defScope st__law_due, fun _ => true, 2, H0, []⟩ "_law_apart" 1 m__law_apart := (cal__law_apart T).cal (by decide)
  have h__law_values : Cal ⟨P, w, K, mg, base, ["terms", "total_v", "unit", "paper", "ends", "value"], defScope st__law_due, fun _ => true, 2, H0, []⟩ "_law_values" 4 m__law_values := (cal__law_values T).cal (by decide)
  exact (ss_cons (s_set ⟨nd__law_due, rfl, Or.inl lk__law_due_paper, Or.inl rfl⟩ (e_call h__law_apart (a_cons (e_var (i := 0) rfl (Or.inl lk__law_due_terms)) a_nil) lk__law_due__law_apart)) (ss_cons (s_if (t_cmp (fun _ A => o_isnot A) (e_var (i := 3) rfl (Or.inl lk__law_due_paper)) e_non) (ss_one (s_ret (e_tup (a_cons e_str (a_cons (e_var (i := 3) rfl (Or.inl lk__law_due_paper)) a_nil))))) ss_nil) (ss_cons (s_set ⟨nd__law_due, rfl, Or.inl lk__law_due_ends, Or.inl rfl⟩ (e_call h__law_ends (a_cons (e_var (i := 0) rfl (Or.inl lk__law_due_terms)) a_nil) lk__law_due__law_ends)) (ss_cons (s_if (t_cmp (fun _ A => o_gt A) (e_ix (e_var (i := 4) rfl (Or.inl lk__law_due_ends)) e_int) (e_ix (e_var (i := 1) rfl (Or.inl lk__law_due_total_v)) e_int)) (ss_one (s_ret (e_tup (a_cons e_str (a_cons (e_tup (a_cons e_str (a_cons (e_call h__law_ratio (a_cons (e_bin (fun _ A => o_sub A) (e_ix (e_var (i := 4) rfl (Or.inl lk__law_due_ends)) e_int) (e_ix (e_var (i := 1) rfl (Or.inl lk__law_due_total_v)) e_int)) (a_cons (e_var (i := 2) rfl (Or.inr (Or.inl lk__law_due_unit))) a_nil)) lk__law_due__law_ratio) a_nil))) a_nil))))) ss_nil) (ss_cons (s_if (t_cmp (fun _ A => o_lt A) (e_ix (e_var (i := 4) rfl (Or.inl lk__law_due_ends)) e_int) (e_ix (e_var (i := 1) rfl (Or.inl lk__law_due_total_v)) e_int)) (ss_one (s_ret (e_tup (a_cons e_str (a_cons (e_tup (a_cons e_str (a_cons (e_call h__law_ratio (a_cons (e_bin (fun _ A => o_sub A) (e_ix (e_var (i := 1) rfl (Or.inl lk__law_due_total_v)) e_int) (e_ix (e_var (i := 4) rfl (Or.inl lk__law_due_ends)) e_int)) (a_cons (e_var (i := 2) rfl (Or.inr (Or.inl lk__law_due_unit))) a_nil)) lk__law_due__law_ratio) a_nil))) a_nil))))) ss_nil) (ss_one (s_ret (e_tup (a_cons e_str (a_cons (e_cty (fun _ A => c_tup A) T.no_tuple rfl (a_cons (e_lc (own := [("value", 5)]) nd__law_due (by dsimp only; decide +kernel) rfl rfl (i_val (e_call h__law_values (a_cons (e_var (i := 0) rfl (Or.inl lk__law_due_terms)) (a_cons (e_ix (e_var (i := 1) rfl (Or.inl lk__law_due_total_v)) e_int) (a_cons (e_un (fun _ A => o_neg A) e_int) (a_cons e_int a_nil)))) lk__law_due__law_values)) (fun _ => (g_nm ⟨nd__law_due, rfl, (by first | exact Or.inl rfl | exact Or.inr rfl), (by first | exact Or.inl rfl | exact Or.inr rfl)⟩)) (fun _ => ts_no) (fun _ => (e_call ⟨h__law_ratio.ex⟩ (a_cons (e_var (i := 5) rfl ) (a_cons (e_var (i := 2) rfl ) a_nil)) ))) a_nil) lk__law_due_tuple) a_nil))))))))))
theorem sc_is_tuple_of : FnScope ["value", "low", "high"] ["value", "low", "high"] (defScope st_is_tuple_of) := ⟨rfl, rfl, rfl, by decide +kernel, rfl, by decide +kernel, by decide +kernel⟩
theorem nd_is_tuple_of : (["value", "low", "high"] : List Str).Nodup := sc_is_tuple_of.nd
theorem kd_is_tuple_of : (defScope st_is_tuple_of).kind = .function := rfl
theorem lk_is_tuple_of_high : (defScope st_is_tuple_of).names.lookup ("high" : Str) = some .local := by decide +kernel
theorem lk_is_tuple_of_isinstance : (defScope st_is_tuple_of).names.lookup ("isinstance" : Str) = some .globalImplicit := by decide +kernel
theorem lk_is_tuple_of_len : (defScope st_is_tuple_of).names.lookup ("len" : Str) = some .globalImplicit := by decide +kernel
theorem lk_is_tuple_of_low : (defScope st_is_tuple_of).names.lookup ("low" : Str) = some .local := by decide +kernel
theorem lk_is_tuple_of_tuple : (defScope st_is_tuple_of).names.lookup ("tuple" : Str) = some .globalImplicit := by decide +kernel
theorem lk_is_tuple_of_value : (defScope st_is_tuple_of).names.lookup ("value" : Str) = some .local := by decide +kernel
theorem cal_is_tuple_of (T : Txt K mg) : Cal0 P w K mg base 1 "is_tuple_of" 3 m_is_tuple_of := by
  refine Cal0.of (k := 0) (m := 0) (f := b_is_tuple_of) T.fn_is_tuple_of sc_is_tuple_of rfl rfl fun H0 => ?_
  exact (ss_one (s_ret (e_and (e_isi .tuple rfl T.no_isinstance T.no_tuple (e_var (i := 0) rfl (Or.inl lk_is_tuple_of_value)) lk_is_tuple_of_isinstance lk_is_tuple_of_tuple) (e_one (e_chain (fun _ A => o_le A) (fun _ A => o_le A) (e_var (i := 1) rfl (Or.inl lk_is_tuple_of_low)) (e_cb (fun _ A => c_len1 A) T.no_len rfl (a_cons (e_var (i := 0) rfl (Or.inl lk_is_tuple_of_value)) a_nil) lk_is_tuple_of_len) (e_var (i := 2) rfl (Or.inl lk_is_tuple_of_high)))))))
theorem sc_is_whole : FnScope ["value"] ["value"] (defScope st_is_whole) := ⟨rfl, rfl, rfl, by decide +kernel, rfl, by decide +kernel, by decide +kernel⟩
theorem nd_is_whole : (["value"] : List Str).Nodup := sc_is_whole.nd
theorem kd_is_whole : (defScope st_is_whole).kind = .function := rfl
theorem lk_is_whole_bool : (defScope st_is_whole).names.lookup ("bool" : Str) = some .globalImplicit := by decide +kernel
theorem lk_is_whole_int : (defScope st_is_whole).names.lookup ("int" : Str) = some .globalImplicit := by decide +kernel
theorem lk_is_whole_isinstance : (defScope st_is_whole).names.lookup ("isinstance" : Str) = some .globalImplicit := by decide +kernel
theorem lk_is_whole_value : (defScope st_is_whole).names.lookup ("value" : Str) = some .local := by decide +kernel
theorem cal_is_whole (T : Txt K mg) : Cal0 P w K mg base 1 "is_whole" 1 m_is_whole := by
  refine Cal0.of (k := 0) (m := 0) (f := b_is_whole) T.fn_is_whole sc_is_whole rfl rfl fun H0 => ?_
  exact (ss_one (s_ret (e_and (e_isi .int rfl T.no_isinstance T.no_int (e_var (i := 0) rfl (Or.inl lk_is_whole_value)) lk_is_whole_isinstance lk_is_whole_int) (e_one (e_not (e_isi .bool rfl T.no_isinstance T.no_bool (e_var (i := 0) rfl (Or.inl lk_is_whole_value)) lk_is_whole_isinstance lk_is_whole_bool))))))
theorem sc_is_ratio : FnScope ["value"] ["value"] (defScope st_is_ratio) := ⟨rfl, rfl, rfl, by decide +kernel, rfl, by decide +kernel, by decide +kernel⟩
theorem nd_is_ratio : (["value"] : List Str).Nodup := sc_is_ratio.nd
theorem kd_is_ratio : (defScope st_is_ratio).kind = .function := rfl
theorem lk_is_ratio_gcd : (defScope st_is_ratio).names.lookup ("gcd" : Str) = some .globalImplicit := by decide +kernel
theorem lk_is_ratio_is_tuple_of : (defScope st_is_ratio).names.lookup ("is_tuple_of" : Str) = some .globalImplicit := by decide +kernel
theorem lk_is_ratio_is_whole : (defScope st_is_ratio).names.lookup ("is_whole" : Str) = some .globalImplicit := by decide +kernel
theorem lk_is_ratio_value : (defScope st_is_ratio).names.lookup ("value" : Str) = some .local := by decide +kernel
theorem cal_is_ratio (T : Txt K mg) : Cal0 P w K mg base 2 "is_ratio" 1 m_is_ratio := by
  refine Cal0.of (k := 1) (m := 0) (f := b_is_ratio) T.fn_is_ratio sc_is_ratio rfl rfl fun H0 => ?_
  have h_is_tuple_of : Cal ⟨P, w, K, mg, base, ["value"], defScope st_is_ratio, fun _ => true, 1, H0, []⟩ "is_tuple_of" 3 m_is_tuple_of := (cal_is_tuple_of T).cal (by decide)
  have h_is_whole : Cal ⟨P, w, K, mg, base, ["value"], defScope st_is_ratio, fun _ => true, 1, H0, []⟩ "is_whole" 1 m_is_whole := (cal_is_whole T).cal (by decide)
  exact (ss_cons (s_if (t_not (t_tru (e_call h_is_tuple_of (a_cons (e_var (i := 0) rfl (Or.inl lk_is_ratio_value)) (a_cons e_int (a_cons e_int a_nil))) lk_is_ratio_is_tuple_of))) (ss_one (s_ret e_bl)) ss_nil) (ss_cons (s_if (t_w (w_or (t_not (t_tru (e_call h_is_whole (a_cons (e_ix (e_var (i := 0) rfl (Or.inl lk_is_ratio_value)) e_int) a_nil) lk_is_ratio_is_whole))) (w_or (t_not (t_tru (e_call h_is_whole (a_cons (e_ix (e_var (i := 0) rfl (Or.inl lk_is_ratio_value)) e_int) a_nil) lk_is_ratio_is_whole))) (w_or1 (t_cmp (fun _ A => o_lt A) (e_ix (e_var (i := 0) rfl (Or.inl lk_is_ratio_value)) e_int) e_int))))) (ss_one (s_ret e_bl)) ss_nil) (ss_one (s_ret (e_cmp (fun _ A => o_eq A) (e_cbf (fun _ A => c_gcd A) T.fun_gcd (a_cons (e_ix (e_var (i := 0) rfl (Or.inl lk_is_ratio_value)) e_int) (a_cons (e_ix (e_var (i := 0) rfl (Or.inl lk_is_ratio_value)) e_int) a_nil)) lk_is_ratio_gcd) e_int)))))
theorem sc_check_ratio : FnScope ["value"] ["value"] (defScope st_check_ratio) := ⟨rfl, rfl, rfl, by decide +kernel, rfl, by decide +kernel, by decide +kernel⟩
theorem nd_check_ratio : (["value"] : List Str).Nodup := sc_check_ratio.nd
theorem kd_check_ratio : (defScope st_check_ratio).kind = .function := rfl
theorem lk_check_ratio_BadRatio : (defScope st_check_ratio).names.lookup ("BadRatio" : Str) = some .globalImplicit := by decide +kernel
theorem lk_check_ratio_is_ratio : (defScope st_check_ratio).names.lookup ("is_ratio" : Str) = some .globalImplicit := by decide +kernel
theorem lk_check_ratio_value : (defScope st_check_ratio).names.lookup ("value" : Str) = some .local := by decide +kernel
theorem cal_check_ratio (T : Txt K mg) : Cal0 P w K mg base 3 "check_ratio" 1 m_check_ratio := by
  refine Cal0.of (k := 2) (m := 0) (f := b_check_ratio) T.fn_check_ratio sc_check_ratio rfl rfl fun H0 => ?_
  have h_is_ratio : Cal ⟨P, w, K, mg, base, ["value"], defScope st_check_ratio, fun _ => true, 2, H0, []⟩ "is_ratio" 1 m_is_ratio := (cal_is_ratio T).cal (by decide)
  exact (ss_one (s_if (t_not (t_tru (e_call h_is_ratio (a_cons (e_var (i := 0) rfl (Or.inl lk_check_ratio_value)) a_nil) lk_check_ratio_is_ratio))) (ss_one (s_raise ⟨T.exc_BadRatio⟩ lk_check_ratio_BadRatio)) ss_nil))
theorem sc_compare : FnScope ["a", "b", "left", "right"] ["a", "b"] (defScope st_compare) := ⟨rfl, rfl, rfl, by decide +kernel, rfl, by decide +kernel, by decide +kernel⟩
theorem nd_compare : (["a", "b", "left", "right"] : List Str).Nodup := sc_compare.nd
theorem kd_compare : (defScope st_compare).kind = .function := rfl
theorem lk_compare_a : (defScope st_compare).names.lookup ("a" : Str) = some .local := by decide +kernel
theorem lk_compare_b : (defScope st_compare).names.lookup ("b" : Str) = some .local := by decide +kernel
theorem lk_compare_check_ratio : (defScope st_compare).names.lookup ("check_ratio" : Str) = some .globalImplicit := by decide +kernel
theorem lk_compare_left : (defScope st_compare).names.lookup ("left" : Str) = some .local := by decide +kernel
theorem lk_compare_right : (defScope st_compare).names.lookup ("right" : Str) = some .local := by decide +kernel
theorem cal_compare (T : Txt K mg) : Cal0 P w K mg base 4 "compare" 2 m_compare := by
  refine Cal0.of (k := 3) (m := 2) (f := b_compare) T.fn_compare sc_compare rfl rfl fun H0 => ?_
  have h_check_ratio : Cal ⟨P, w, K, mg, base, ["a", "b", "left", "right"], defScope st_compare, fun _ => true, 3, H0, []⟩ "check_ratio" 1 m_check_ratio := (cal_check_ratio T).cal (by decide)
  exact (ss_cons (s_ex (e_call h_check_ratio (a_cons (e_var (i := 0) rfl (Or.inl lk_compare_a)) a_nil) lk_compare_check_ratio)) (ss_cons (s_ex (e_call h_check_ratio (a_cons (e_var (i := 1) rfl (Or.inl lk_compare_b)) a_nil) lk_compare_check_ratio)) (ss_cons (s_set ⟨nd_compare, rfl, Or.inl lk_compare_left, Or.inl rfl⟩ (e_bin (fun _ A => o_mul A) (e_ix (e_var (i := 0) rfl (Or.inl lk_compare_a)) e_int) (e_ix (e_var (i := 1) rfl (Or.inl lk_compare_b)) e_int))) (ss_cons (s_set ⟨nd_compare, rfl, Or.inl lk_compare_right, Or.inl rfl⟩ (e_bin (fun _ A => o_mul A) (e_ix (e_var (i := 1) rfl (Or.inl lk_compare_b)) e_int) (e_ix (e_var (i := 0) rfl (Or.inl lk_compare_a)) e_int))) (ss_cons (s_if (t_cmp (fun _ A => o_lt A) (e_var (i := 2) rfl (Or.inl lk_compare_left)) (e_var (i := 3) rfl (Or.inl lk_compare_right))) (ss_one (s_ret (e_un (fun _ A => o_neg A) e_int))) ss_nil) (ss_cons (s_if (t_cmp (fun _ A => o_gt A) (e_var (i := 2) rfl (Or.inl lk_compare_left)) (e_var (i := 3) rfl (Or.inl lk_compare_right))) (ss_one (s_ret e_int)) ss_nil) (ss_one (s_ret e_int))))))))
theorem sc_is_small_ratio : FnScope ["value"] ["value"] (defScope st_is_small_ratio) := ⟨rfl, rfl, rfl, by decide +kernel, rfl, by decide +kernel, by decide +kernel⟩
theorem nd_is_small_ratio : (["value"] : List Str).Nodup := sc_is_small_ratio.nd
theorem kd_is_small_ratio : (defScope st_is_small_ratio).kind = .function := rfl
theorem lk_is_small_ratio_is_ratio : (defScope st_is_small_ratio).names.lookup ("is_ratio" : Str) = some .globalImplicit := by decide +kernel
theorem lk_is_small_ratio_value : (defScope st_is_small_ratio).names.lookup ("value" : Str) = some .local := by decide +kernel
theorem cal_is_small_ratio (T : Txt K mg) : Cal0 P w K mg base 3 "is_small_ratio" 1 m_is_small_ratio := by
  refine Cal0.of (k := 2) (m := 0) (f := b_is_small_ratio) T.fn_is_small_ratio sc_is_small_ratio rfl rfl fun H0 => ?_
  have h_is_ratio : Cal ⟨P, w, K, mg, base, ["value"], defScope st_is_small_ratio, fun _ => true, 2, H0, []⟩ "is_ratio" 1 m_is_ratio := (cal_is_ratio T).cal (by decide)
  exact (ss_cons (s_if (t_not (t_tru (e_call h_is_ratio (a_cons (e_var (i := 0) rfl (Or.inl lk_is_small_ratio_value)) a_nil) lk_is_small_ratio_is_ratio))) (ss_one (s_ret e_bl)) ss_nil) (ss_one (s_ret (e_and (e_chain (fun _ A => o_le A) (fun _ A => o_le A) (e_un (fun _ A => o_neg A) (e_glob ⟨T.con_GREATEST_TOP⟩)) (e_ix (e_var (i := 0) rfl (Or.inl lk_is_small_ratio_value)) e_int) (e_glob ⟨T.con_GREATEST_TOP⟩)) (e_one (e_cmp (fun _ A => o_le A) (e_ix (e_var (i := 0) rfl (Or.inl lk_is_small_ratio_value)) e_int) (e_glob ⟨T.con_GREATEST_BOTTOM⟩)))))))
theorem sc_is_reading : FnScope ["value"] ["value"] (defScope st_is_reading) := ⟨rfl, rfl, rfl, by decide +kernel, rfl, by decide +kernel, by decide +kernel⟩
theorem nd_is_reading : (["value"] : List Str).Nodup := sc_is_reading.nd
theorem kd_is_reading : (defScope st_is_reading).kind = .function := rfl
theorem lk_is_reading_compare : (defScope st_is_reading).names.lookup ("compare" : Str) = some .globalImplicit := by decide +kernel
theorem lk_is_reading_is_small_ratio : (defScope st_is_reading).names.lookup ("is_small_ratio" : Str) = some .globalImplicit := by decide +kernel
theorem lk_is_reading_is_tuple_of : (defScope st_is_reading).names.lookup ("is_tuple_of" : Str) = some .globalImplicit := by decide +kernel
theorem lk_is_reading_value : (defScope st_is_reading).names.lookup ("value" : Str) = some .local := by decide +kernel
theorem cal_is_reading (T : Txt K mg) : Cal0 P w K mg base 5 "is_reading" 1 m_is_reading := by
  refine Cal0.of (k := 4) (m := 0) (f := b_is_reading) T.fn_is_reading sc_is_reading rfl rfl fun H0 => ?_
  have h_is_tuple_of : Cal ⟨P, w, K, mg, base, ["value"], defScope st_is_reading, fun _ => true, 4, H0, []⟩ "is_tuple_of" 3 m_is_tuple_of := (cal_is_tuple_of T).cal (by decide)
  have h_compare : Cal ⟨P, w, K, mg, base, ["value"], defScope st_is_reading, fun _ => true, 4, H0, []⟩ "compare" 2 m_compare := (cal_compare T).cal (by decide)
  have h_is_small_ratio : Cal ⟨P, w, K, mg, base, ["value"], defScope st_is_reading, fun _ => true, 4, H0, []⟩ "is_small_ratio" 1 m_is_small_ratio := (cal_is_small_ratio T).cal (by decide)
  exact (ss_cons (s_if (t_not (t_tru (e_call h_is_tuple_of (a_cons (e_var (i := 0) rfl (Or.inl lk_is_reading_value)) (a_cons e_int (a_cons e_int a_nil))) lk_is_reading_is_tuple_of))) (ss_one (s_ret e_bl)) ss_nil) (ss_cons (s_if (t_w (w_or (t_not (t_tru (e_call h_is_small_ratio (a_cons (e_ix (e_var (i := 0) rfl (Or.inl lk_is_reading_value)) e_int) a_nil) lk_is_reading_is_small_ratio))) (w_or1 (t_not (t_tru (e_call h_is_small_ratio (a_cons (e_ix (e_var (i := 0) rfl (Or.inl lk_is_reading_value)) e_int) a_nil) lk_is_reading_is_small_ratio)))))) (ss_one (s_ret e_bl)) ss_nil) (ss_one (s_ret (e_cmp (fun _ A => o_le A) (e_call h_compare (a_cons (e_ix (e_var (i := 0) rfl (Or.inl lk_is_reading_value)) e_int) (a_cons (e_ix (e_var (i := 0) rfl (Or.inl lk_is_reading_value)) e_int) a_nil)) lk_is_reading_compare) e_int)))))
theorem sc_are_readings : FnScope ["value", "item"] ["value"] (defScope st_are_readings) := ⟨rfl, rfl, rfl, by decide +kernel, rfl, by decide +kernel, by decide +kernel⟩
theorem nd_are_readings : (["value", "item"] : List Str).Nodup := sc_are_readings.nd
theorem kd_are_readings : (defScope st_are_readings).kind = .function := rfl
theorem lk_are_readings_all : (defScope st_are_readings).names.lookup ("all" : Str) = some .globalImplicit := by decide +kernel
theorem lk_are_readings_is_tuple_of : (defScope st_are_readings).names.lookup ("is_tuple_of" : Str) = some .globalImplicit := by decide +kernel
theorem lk_are_readings_value : (defScope st_are_readings).names.lookup ("value" : Str) = some .local := by decide +kernel
theorem cal_are_readings (T : Txt K mg) : Cal0 P w K mg base 6 "are_readings" 1 m_are_readings := by
  refine Cal0.of (k := 5) (m := 1) (f := b_are_readings) T.fn_are_readings sc_are_readings rfl rfl fun H0 => ?_
  have h_is_tuple_of : Cal ⟨P, w, K, mg, base, ["value", "item"], defScope st_are_readings, fun _ => true, 5, H0, []⟩ "is_tuple_of" 3 m_is_tuple_of := (cal_is_tuple_of T).cal (by decide)
  have h_is_reading : Cal ⟨P, w, K, mg, base, ["value", "item"], defScope st_are_readings, fun _ => true, 5, H0, []⟩ "is_reading" 1 m_is_reading := (cal_is_reading T).cal (by decide)
  exact (ss_cons (s_if (t_not (t_tru (e_call h_is_tuple_of (a_cons (e_var (i := 0) rfl (Or.inl lk_are_readings_value)) (a_cons e_int (a_cons (e_glob ⟨T.con_MOST_READINGS⟩) a_nil))) lk_are_readings_is_tuple_of))) (ss_one (s_ret e_bl)) ss_nil) (ss_one (s_ret (e_cb (fun _ A => c_all A) T.no_all rfl (a_cons (e_lc (own := [("item", 1)]) nd_are_readings (by dsimp only; decide +kernel) rfl rfl (i_val (e_var (i := 0) rfl (Or.inl lk_are_readings_value))) (fun _ => (g_nm ⟨nd_are_readings, rfl, (by first | exact Or.inl rfl | exact Or.inr rfl), (by first | exact Or.inl rfl | exact Or.inr rfl)⟩)) (fun _ => ts_no) (fun _ => (e_call ⟨h_is_reading.ex⟩ (a_cons (e_var (i := 1) rfl ) a_nil) ))) a_nil) lk_are_readings_all))))
theorem sc_is_term : FnScope ["value"] ["value"] (defScope st_is_term) := ⟨rfl, rfl, rfl, by decide +kernel, rfl, by decide +kernel, by decide +kernel⟩
theorem nd_is_term : (["value"] : List Str).Nodup := sc_is_term.nd
theorem kd_is_term : (defScope st_is_term).kind = .function := rfl
theorem lk_is_term_are_readings : (defScope st_is_term).names.lookup ("are_readings" : Str) = some .globalImplicit := by decide +kernel
theorem lk_is_term_is_tuple_of : (defScope st_is_term).names.lookup ("is_tuple_of" : Str) = some .globalImplicit := by decide +kernel
theorem lk_is_term_is_whole : (defScope st_is_term).names.lookup ("is_whole" : Str) = some .globalImplicit := by decide +kernel
theorem lk_is_term_value : (defScope st_is_term).names.lookup ("value" : Str) = some .local := by decide +kernel
theorem cal_is_term (T : Txt K mg) : Cal0 P w K mg base 7 "is_term" 1 m_is_term := by
  refine Cal0.of (k := 6) (m := 0) (f := b_is_term) T.fn_is_term sc_is_term rfl rfl fun H0 => ?_
  have h_is_tuple_of : Cal ⟨P, w, K, mg, base, ["value"], defScope st_is_term, fun _ => true, 6, H0, []⟩ "is_tuple_of" 3 m_is_tuple_of := (cal_is_tuple_of T).cal (by decide)
  have h_is_whole : Cal ⟨P, w, K, mg, base, ["value"], defScope st_is_term, fun _ => true, 6, H0, []⟩ "is_whole" 1 m_is_whole := (cal_is_whole T).cal (by decide)
  have h_are_readings : Cal ⟨P, w, K, mg, base, ["value"], defScope st_is_term, fun _ => true, 6, H0, []⟩ "are_readings" 1 m_are_readings := (cal_are_readings T).cal (by decide)
  exact (ss_cons (s_if (t_w (w_or (t_not (t_tru (e_call h_is_tuple_of (a_cons (e_var (i := 0) rfl (Or.inl lk_is_term_value)) (a_cons e_int (a_cons e_int a_nil))) lk_is_term_is_tuple_of))) (w_or1 (t_not (t_tru (e_call h_is_whole (a_cons (e_ix (e_var (i := 0) rfl (Or.inl lk_is_term_value)) e_int) a_nil) lk_is_term_is_whole)))))) (ss_one (s_ret e_bl)) ss_nil) (ss_one (s_ret (e_and (e_cmp (fun _ A => o_in A) (e_ix (e_var (i := 0) rfl (Or.inl lk_is_term_value)) e_int) (e_tup (a_cons e_int (a_cons (e_un (fun _ A => o_neg A) e_int) a_nil)))) (e_one (e_call h_are_readings (a_cons (e_ix (e_var (i := 0) rfl (Or.inl lk_is_term_value)) e_int) a_nil) lk_is_term_are_readings))))))
theorem sc_check_strike : FnScope ["subject", "item"] ["subject"] (defScope st_check_strike) := ⟨rfl, rfl, rfl, by decide +kernel, rfl, by decide +kernel, by decide +kernel⟩
theorem nd_check_strike : (["subject", "item"] : List Str).Nodup := sc_check_strike.nd
theorem kd_check_strike : (defScope st_check_strike).kind = .function := rfl
theorem lk_check_strike_BadStrike : (defScope st_check_strike).names.lookup ("BadStrike" : Str) = some .globalImplicit := by decide +kernel
theorem lk_check_strike_all : (defScope st_check_strike).names.lookup ("all" : Str) = some .globalImplicit := by decide +kernel
theorem lk_check_strike_is_reading : (defScope st_check_strike).names.lookup ("is_reading" : Str) = some .globalImplicit := by decide +kernel
theorem lk_check_strike_is_tuple_of : (defScope st_check_strike).names.lookup ("is_tuple_of" : Str) = some .globalImplicit := by decide +kernel
theorem lk_check_strike_subject : (defScope st_check_strike).names.lookup ("subject" : Str) = some .local := by decide +kernel
theorem cal_check_strike (T : Txt K mg) : Cal0 P w K mg base 8 "check_strike" 1 m_check_strike := by
  refine Cal0.of (k := 7) (m := 1) (f := b_check_strike) T.fn_check_strike sc_check_strike rfl rfl fun H0 => ?_
  have h_is_tuple_of : Cal ⟨P, w, K, mg, base, ["subject", "item"], defScope st_check_strike, fun _ => true, 7, H0, []⟩ "is_tuple_of" 3 m_is_tuple_of := (cal_is_tuple_of T).cal (by decide)
  have h_is_reading : Cal ⟨P, w, K, mg, base, ["subject", "item"], defScope st_check_strike, fun _ => true, 7, H0, []⟩ "is_reading" 1 m_is_reading := (cal_is_reading T).cal (by decide)
  have h_is_term : Cal ⟨P, w, K, mg, base, ["subject", "item"], defScope st_check_strike, fun _ => true, 7, H0, []⟩ "is_term" 1 m_is_term := (cal_is_term T).cal (by decide)
  exact (ss_cons (s_if (t_not (t_tru (e_call h_is_tuple_of (a_cons (e_var (i := 0) rfl (Or.inl lk_check_strike_subject)) (a_cons e_int (a_cons e_int a_nil))) lk_check_strike_is_tuple_of))) (ss_one (s_raise ⟨T.exc_BadStrike⟩ lk_check_strike_BadStrike)) ss_nil) (ss_cons (s_if (t_not (t_tru (e_call h_is_tuple_of (a_cons (e_ix (e_var (i := 0) rfl (Or.inl lk_check_strike_subject)) e_int) (a_cons e_int (a_cons (e_glob ⟨T.con_MOST_TERMS⟩) a_nil))) lk_check_strike_is_tuple_of))) (ss_one (s_raise ⟨T.exc_BadStrike⟩ lk_check_strike_BadStrike)) ss_nil) (ss_cons (s_if (t_not (t_tru (e_cb (fun _ A => c_all A) T.no_all rfl (a_cons (e_lc (own := [("item", 1)]) nd_check_strike (by dsimp only; decide +kernel) rfl rfl (i_val (e_ix (e_var (i := 0) rfl (Or.inl lk_check_strike_subject)) e_int)) (fun _ => (g_nm ⟨nd_check_strike, rfl, (by first | exact Or.inl rfl | exact Or.inr rfl), (by first | exact Or.inl rfl | exact Or.inr rfl)⟩)) (fun _ => ts_no) (fun _ => (e_call ⟨h_is_term.ex⟩ (a_cons (e_var (i := 1) rfl ) a_nil) ))) a_nil) lk_check_strike_all))) (ss_one (s_raise ⟨T.exc_BadStrike⟩ lk_check_strike_BadStrike)) ss_nil) (ss_one (s_if (t_not (t_tru (e_call h_is_reading (a_cons (e_ix (e_var (i := 0) rfl (Or.inl lk_check_strike_subject)) e_int) a_nil) lk_check_strike_is_reading))) (ss_one (s_raise ⟨T.exc_BadStrike⟩ lk_check_strike_BadStrike)) ss_nil)))))
theorem sc_ratio : FnScope ["n", "d", "common"] ["n", "d"] (defScope st_ratio) := ⟨rfl, rfl, rfl, by decide +kernel, rfl, by decide +kernel, by decide +kernel⟩
theorem nd_ratio : (["n", "d", "common"] : List Str).Nodup := sc_ratio.nd
theorem kd_ratio : (defScope st_ratio).kind = .function := rfl
theorem lk_ratio_BadRatio : (defScope st_ratio).names.lookup ("BadRatio" : Str) = some .globalImplicit := by decide +kernel
theorem lk_ratio_common : (defScope st_ratio).names.lookup ("common" : Str) = some .local := by decide +kernel
theorem lk_ratio_d : (defScope st_ratio).names.lookup ("d" : Str) = some .local := by decide +kernel
theorem lk_ratio_gcd : (defScope st_ratio).names.lookup ("gcd" : Str) = some .globalImplicit := by decide +kernel
theorem lk_ratio_is_whole : (defScope st_ratio).names.lookup ("is_whole" : Str) = some .globalImplicit := by decide +kernel
theorem lk_ratio_n : (defScope st_ratio).names.lookup ("n" : Str) = some .local := by decide +kernel
theorem cal_ratio (T : Txt K mg) : Cal0 P w K mg base 2 "ratio" 2 m_ratio := by
  refine Cal0.of (k := 1) (m := 1) (f := b_ratio) T.fn_ratio sc_ratio rfl rfl fun H0 => ?_
  have h_is_whole : Cal ⟨P, w, K, mg, base, ["n", "d", "common"], defScope st_ratio, fun _ => true, 1, H0, []⟩ "is_whole" 1 m_is_whole := (cal_is_whole T).cal (by decide)
  exact (ss_cons (s_if (t_w (w_or (t_not (t_tru (e_call h_is_whole (a_cons (e_var (i := 0) rfl (Or.inl lk_ratio_n)) a_nil) lk_ratio_is_whole))) (w_or1 (t_not (t_tru (e_call h_is_whole (a_cons (e_var (i := 1) rfl (Or.inl lk_ratio_d)) a_nil) lk_ratio_is_whole)))))) (ss_one (s_raise ⟨T.exc_BadRatio⟩ lk_ratio_BadRatio)) ss_nil) (ss_cons (s_if (t_cmp (fun _ A => o_eq A) (e_var (i := 1) rfl (Or.inl lk_ratio_d)) e_int) (ss_one (s_raise ⟨T.exc_BadRatio⟩ lk_ratio_BadRatio)) ss_nil) (ss_cons (s_set ⟨nd_ratio, rfl, Or.inl lk_ratio_common, Or.inl rfl⟩ (e_cbf (fun _ A => c_gcd A) T.fun_gcd (a_cons (e_var (i := 0) rfl (Or.inl lk_ratio_n)) (a_cons (e_var (i := 1) rfl (Or.inl lk_ratio_d)) a_nil)) lk_ratio_gcd)) (ss_cons (s_if (t_cmp (fun _ A => o_lt A) (e_var (i := 1) rfl (Or.inl lk_ratio_d)) e_int) (ss_one (s_set ⟨nd_ratio, rfl, Or.inl lk_ratio_common, Or.inl rfl⟩ (e_un (fun _ A => o_neg A) (e_var (i := 2) rfl (Or.inl lk_ratio_common))))) ss_nil) (ss_one (s_ret (e_tup (a_cons (e_bin (fun _ A => o_div A) (e_var (i := 0) rfl (Or.inl lk_ratio_n)) (e_var (i := 2) rfl (Or.inl lk_ratio_common))) (a_cons (e_bin (fun _ A => o_div A) (e_var (i := 1) rfl (Or.inl lk_ratio_d)) (e_var (i := 2) rfl (Or.inl lk_ratio_common))) a_nil)))))))))
theorem sc_plus : FnScope ["a", "b"] ["a", "b"] (defScope st_plus) := ⟨rfl, rfl, rfl, by decide +kernel, rfl, by decide +kernel, by decide +kernel⟩
theorem nd_plus : (["a", "b"] : List Str).Nodup := sc_plus.nd
theorem kd_plus : (defScope st_plus).kind = .function := rfl
theorem lk_plus_a : (defScope st_plus).names.lookup ("a" : Str) = some .local := by decide +kernel
theorem lk_plus_b : (defScope st_plus).names.lookup ("b" : Str) = some .local := by decide +kernel
theorem lk_plus_check_ratio : (defScope st_plus).names.lookup ("check_ratio" : Str) = some .globalImplicit := by decide +kernel
theorem lk_plus_ratio : (defScope st_plus).names.lookup ("ratio" : Str) = some .globalImplicit := by decide +kernel
theorem cal_plus (T : Txt K mg) : Cal0 P w K mg base 4 "plus" 2 m_plus := by
  refine Cal0.of (k := 3) (m := 0) (f := b_plus) T.fn_plus sc_plus rfl rfl fun H0 => ?_
  have h_check_ratio : Cal ⟨P, w, K, mg, base, ["a", "b"], defScope st_plus, fun _ => true, 3, H0, []⟩ "check_ratio" 1 m_check_ratio := (cal_check_ratio T).cal (by decide)
  have h_ratio : Cal ⟨P, w, K, mg, base, ["a", "b"], defScope st_plus, fun _ => true, 3, H0, []⟩ "ratio" 2 m_ratio := (cal_ratio T).cal (by decide)
  exact (ss_cons (s_ex (e_call h_check_ratio (a_cons (e_var (i := 0) rfl (Or.inl lk_plus_a)) a_nil) lk_plus_check_ratio)) (ss_cons (s_ex (e_call h_check_ratio (a_cons (e_var (i := 1) rfl (Or.inl lk_plus_b)) a_nil) lk_plus_check_ratio)) (ss_one (s_ret (e_call h_ratio (a_cons (e_bin (fun _ A => o_add A) (e_bin (fun _ A => o_mul A) (e_ix (e_var (i := 0) rfl (Or.inl lk_plus_a)) e_int) (e_ix (e_var (i := 1) rfl (Or.inl lk_plus_b)) e_int)) (e_bin (fun _ A => o_mul A) (e_ix (e_var (i := 1) rfl (Or.inl lk_plus_b)) e_int) (e_ix (e_var (i := 0) rfl (Or.inl lk_plus_a)) e_int))) (a_cons (e_bin (fun _ A => o_mul A) (e_ix (e_var (i := 0) rfl (Or.inl lk_plus_a)) e_int) (e_ix (e_var (i := 1) rfl (Or.inl lk_plus_b)) e_int)) a_nil)) lk_plus_ratio)))))
theorem sc_total : FnScope ["ratios", "item", "result"] ["ratios"] (defScope st_total) := ⟨rfl, rfl, rfl, by decide +kernel, rfl, by decide +kernel, by decide +kernel⟩
theorem nd_total : (["ratios", "item", "result"] : List Str).Nodup := sc_total.nd
theorem kd_total : (defScope st_total).kind = .function := rfl
theorem lk_total_BadRatio : (defScope st_total).names.lookup ("BadRatio" : Str) = some .globalImplicit := by decide +kernel
theorem lk_total_check_ratio : (defScope st_total).names.lookup ("check_ratio" : Str) = some .globalImplicit := by decide +kernel
theorem lk_total_isinstance : (defScope st_total).names.lookup ("isinstance" : Str) = some .globalImplicit := by decide +kernel
theorem lk_total_item : (defScope st_total).names.lookup ("item" : Str) = some .local := by decide +kernel
theorem lk_total_plus : (defScope st_total).names.lookup ("plus" : Str) = some .globalImplicit := by decide +kernel
theorem lk_total_ratios : (defScope st_total).names.lookup ("ratios" : Str) = some .local := by decide +kernel
theorem lk_total_result : (defScope st_total).names.lookup ("result" : Str) = some .local := by decide +kernel
theorem lk_total_tuple : (defScope st_total).names.lookup ("tuple" : Str) = some .globalImplicit := by decide +kernel
theorem cal_total (T : Txt K mg) : Cal0 P w K mg base 5 "total" 1 m_total := by
  refine Cal0.of (k := 4) (m := 2) (f := b_total) T.fn_total sc_total rfl rfl fun H0 => ?_
  have h_check_ratio : Cal ⟨P, w, K, mg, base, ["ratios", "item", "result"], defScope st_total, fun _ => true, 4, H0, []⟩ "check_ratio" 1 m_check_ratio := (cal_check_ratio T).cal (by decide)
  have h_plus : Cal ⟨P, w, K, mg, base, ["ratios", "item", "result"], defScope st_total, fun _ => true, 4, H0, []⟩ "plus" 2 m_plus := (cal_plus T).cal (by decide)
  exact (ss_cons (s_if (t_not (t_isi .tuple rfl T.no_isinstance T.no_tuple (e_var (i := 0) rfl (Or.inl lk_total_ratios)) lk_total_isinstance lk_total_tuple)) (ss_one (s_raise ⟨T.exc_BadRatio⟩ lk_total_BadRatio)) ss_nil) (ss_cons (s_for (i_val (e_var (i := 0) rfl (Or.inl lk_total_ratios))) (g_nm ⟨nd_total, rfl, Or.inl lk_total_item, Or.inl rfl⟩) (ss_one (s_ex (e_call h_check_ratio (a_cons (e_var (i := 1) rfl (Or.inl lk_total_item)) a_nil) lk_total_check_ratio)))) (ss_cons (s_set ⟨nd_total, rfl, Or.inl lk_total_result, Or.inl rfl⟩ (e_tup (a_cons e_int (a_cons e_int a_nil)))) (ss_cons (s_for (i_val (e_var (i := 0) rfl (Or.inl lk_total_ratios))) (g_nm ⟨nd_total, rfl, Or.inl lk_total_item, Or.inl rfl⟩) (ss_one (s_set ⟨nd_total, rfl, Or.inl lk_total_result, Or.inl rfl⟩ (e_call h_plus (a_cons (e_var (i := 2) rfl (Or.inl lk_total_result)) (a_cons (e_var (i := 1) rfl (Or.inl lk_total_item)) a_nil)) lk_total_plus)))) (ss_one (s_ret (e_var (i := 2) rfl (Or.inl lk_total_result))))))))
theorem sc_sums : FnScope ["bounds", "low", "_", "high"] ["bounds"] (defScope st_sums) := ⟨rfl, rfl, rfl, by decide +kernel, rfl, by decide +kernel, by decide +kernel⟩
theorem nd_sums : (["bounds", "low", "_", "high"] : List Str).Nodup := sc_sums.nd
theorem kd_sums : (defScope st_sums).kind = .function := rfl
theorem lk_sums_bounds : (defScope st_sums).names.lookup ("bounds" : Str) = some .local := by decide +kernel
theorem lk_sums_total : (defScope st_sums).names.lookup ("total" : Str) = some .globalImplicit := by decide +kernel
theorem lk_sums_tuple : (defScope st_sums).names.lookup ("tuple" : Str) = some .globalImplicit := by decide +kernel
theorem cal_sums (T : Txt K mg) : Cal0 P w K mg base 6 "sums" 1 m_sums := by
  refine Cal0.of (k := 5) (m := 3) (f := b_sums) T.fn_sums sc_sums rfl rfl fun H0 => ?_
  have h_total : Cal ⟨P, w, K, mg, base, ["bounds", "low", "_", "high"], defScope st_sums, fun _ => true, 5, H0, []⟩ "total" 1 m_total := (cal_total T).cal (by decide)
  exact (ss_one (s_ret (e_tup (a_cons (e_call h_total (a_cons (e_cty (fun _ A => c_tup A) T.no_tuple rfl (a_cons (e_lc (own := [("low", 1), ("_", 2)]) nd_sums (by dsimp only; decide +kernel) rfl rfl (i_val (e_var (i := 0) rfl (Or.inl lk_sums_bounds))) (fun _ => (g_tp (gs_cons (g_nm ⟨nd_sums, rfl, (by first | exact Or.inl rfl | exact Or.inr rfl), (by first | exact Or.inl rfl | exact Or.inr rfl)⟩) (gs_cons (g_nm ⟨nd_sums, rfl, (by first | exact Or.inl rfl | exact Or.inr rfl), (by first | exact Or.inl rfl | exact Or.inr rfl)⟩) gs_nil)))) (fun _ => ts_no) (fun _ => (e_var (i := 1) rfl ))) a_nil) lk_sums_tuple) a_nil) lk_sums_total) (a_cons (e_call h_total (a_cons (e_cty (fun _ A => c_tup A) T.no_tuple rfl (a_cons (e_lc (own := [("_", 2), ("high", 3)]) nd_sums (by dsimp only; decide +kernel) rfl rfl (i_val (e_var (i := 0) rfl (Or.inl lk_sums_bounds))) (fun _ => (g_tp (gs_cons (g_nm ⟨nd_sums, rfl, (by first | exact Or.inl rfl | exact Or.inr rfl), (by first | exact Or.inl rfl | exact Or.inr rfl)⟩) (gs_cons (g_nm ⟨nd_sums, rfl, (by first | exact Or.inl rfl | exact Or.inr rfl), (by first | exact Or.inl rfl | exact Or.inr rfl)⟩) gs_nil)))) (fun _ => ts_no) (fun _ => (e_var (i := 3) rfl ))) a_nil) lk_sums_tuple) a_nil) lk_sums_total) a_nil)))))
theorem sc_is_whole_in : FnScope ["value", "low", "high"] ["value", "low", "high"] (defScope st_is_whole_in) := ⟨rfl, rfl, rfl, by decide +kernel, rfl, by decide +kernel, by decide +kernel⟩
theorem nd_is_whole_in : (["value", "low", "high"] : List Str).Nodup := sc_is_whole_in.nd
theorem kd_is_whole_in : (defScope st_is_whole_in).kind = .function := rfl
theorem lk_is_whole_in_high : (defScope st_is_whole_in).names.lookup ("high" : Str) = some .local := by decide +kernel
theorem lk_is_whole_in_is_whole : (defScope st_is_whole_in).names.lookup ("is_whole" : Str) = some .globalImplicit := by decide +kernel
theorem lk_is_whole_in_low : (defScope st_is_whole_in).names.lookup ("low" : Str) = some .local := by decide +kernel
theorem lk_is_whole_in_value : (defScope st_is_whole_in).names.lookup ("value" : Str) = some .local := by decide +kernel
theorem cal_is_whole_in (T : Txt K mg) : Cal0 P w K mg base 2 "is_whole_in" 3 m_is_whole_in := by
  refine Cal0.of (k := 1) (m := 0) (f := b_is_whole_in) T.fn_is_whole_in sc_is_whole_in rfl rfl fun H0 => ?_
  have h_is_whole : Cal ⟨P, w, K, mg, base, ["value", "low", "high"], defScope st_is_whole_in, fun _ => true, 1, H0, []⟩ "is_whole" 1 m_is_whole := (cal_is_whole T).cal (by decide)
  exact (ss_one (s_ret (e_and (e_call h_is_whole (a_cons (e_var (i := 0) rfl (Or.inl lk_is_whole_in_value)) a_nil) lk_is_whole_in_is_whole) (e_one (e_chain (fun _ A => o_le A) (fun _ A => o_le A) (e_var (i := 1) rfl (Or.inl lk_is_whole_in_low)) (e_var (i := 0) rfl (Or.inl lk_is_whole_in_value)) (e_var (i := 2) rfl (Or.inl lk_is_whole_in_high)))))))
theorem sc_names_apart : FnScope ["terms", "paper", "readings", "first", "second"] ["terms", "paper"] (defScope st_names_apart) := ⟨rfl, rfl, rfl, by decide +kernel, rfl, by decide +kernel, by decide +kernel⟩
theorem nd_names_apart : (["terms", "paper", "readings", "first", "second"] : List Str).Nodup := sc_names_apart.nd
theorem kd_names_apart : (defScope st_names_apart).kind = .function := rfl
theorem lk_names_apart_compare : (defScope st_names_apart).names.lookup ("compare" : Str) = some .globalImplicit := by decide +kernel
theorem lk_names_apart_first : (defScope st_names_apart).names.lookup ("first" : Str) = some .local := by decide +kernel
theorem lk_names_apart_is_whole_in : (defScope st_names_apart).names.lookup ("is_whole_in" : Str) = some .globalImplicit := by decide +kernel
theorem lk_names_apart_len : (defScope st_names_apart).names.lookup ("len" : Str) = some .globalImplicit := by decide +kernel
theorem lk_names_apart_paper : (defScope st_names_apart).names.lookup ("paper" : Str) = some .local := by decide +kernel
theorem lk_names_apart_readings : (defScope st_names_apart).names.lookup ("readings" : Str) = some .local := by decide +kernel
theorem lk_names_apart_second : (defScope st_names_apart).names.lookup ("second" : Str) = some .local := by decide +kernel
theorem lk_names_apart_terms : (defScope st_names_apart).names.lookup ("terms" : Str) = some .local := by decide +kernel
theorem cal_names_apart (T : Txt K mg) : Cal0 P w K mg base 5 "names_apart" 2 m_names_apart := by
  refine Cal0.of (k := 4) (m := 3) (f := b_names_apart) T.fn_names_apart sc_names_apart rfl rfl fun H0 => ?_
  have h_compare : Cal ⟨P, w, K, mg, base, ["terms", "paper", "readings", "first", "second"], defScope st_names_apart, fun _ => true, 4, H0, []⟩ "compare" 2 m_compare := (cal_compare T).cal (by decide)
  have h_is_whole_in : Cal ⟨P, w, K, mg, base, ["terms", "paper", "readings", "first", "second"], defScope st_names_apart, fun _ => true, 4, H0, []⟩ "is_whole_in" 3 m_is_whole_in := (cal_is_whole_in T).cal (by decide)
  exact (ss_cons (s_if (t_w (w_or (t_cmp (fun _ A => o_ne A) (e_cb (fun _ A => c_len1 A) T.no_len rfl (a_cons (e_var (i := 1) rfl (Or.inl lk_names_apart_paper)) a_nil) lk_names_apart_len) e_int) (w_or1 (t_not (t_tru (e_call h_is_whole_in (a_cons (e_ix (e_var (i := 1) rfl (Or.inl lk_names_apart_paper)) e_int) (a_cons e_int (a_cons (e_bin (fun _ A => o_sub A) (e_cb (fun _ A => c_len1 A) T.no_len rfl (a_cons (e_var (i := 0) rfl (Or.inl lk_names_apart_terms)) a_nil) lk_names_apart_len) e_int) a_nil))) lk_names_apart_is_whole_in)))))) (ss_one (s_ret e_bl)) ss_nil) (ss_cons (s_set ⟨nd_names_apart, rfl, Or.inl lk_names_apart_readings, Or.inl rfl⟩ (e_ix (e_ix (e_var (i := 0) rfl (Or.inl lk_names_apart_terms)) (e_ix (e_var (i := 1) rfl (Or.inl lk_names_apart_paper)) e_int)) e_int)) (ss_cons (s_set ⟨nd_names_apart, rfl, Or.inl lk_names_apart_first, Or.inl rfl⟩ (e_ix (e_var (i := 1) rfl (Or.inl lk_names_apart_paper)) e_int)) (ss_cons (s_set ⟨nd_names_apart, rfl, Or.inl lk_names_apart_second, Or.inl rfl⟩ (e_ix (e_var (i := 1) rfl (Or.inl lk_names_apart_paper)) e_int)) (ss_cons (s_if (t_w (w_or (t_not (t_tru (e_call h_is_whole_in (a_cons (e_var (i := 3) rfl (Or.inl lk_names_apart_first)) (a_cons e_int (a_cons (e_bin (fun _ A => o_sub A) (e_cb (fun _ A => c_len1 A) T.no_len rfl (a_cons (e_var (i := 2) rfl (Or.inl lk_names_apart_readings)) a_nil) lk_names_apart_len) e_int) a_nil))) lk_names_apart_is_whole_in))) (w_or1 (t_not (t_tru (e_call h_is_whole_in (a_cons (e_var (i := 4) rfl (Or.inl lk_names_apart_second)) (a_cons e_int (a_cons (e_bin (fun _ A => o_sub A) (e_cb (fun _ A => c_len1 A) T.no_len rfl (a_cons (e_var (i := 2) rfl (Or.inl lk_names_apart_readings)) a_nil) lk_names_apart_len) e_int) a_nil))) lk_names_apart_is_whole_in)))))) (ss_one (s_ret e_bl)) ss_nil) (ss_one (s_ret (e_and (e_cmp (fun _ A => o_ne A) (e_var (i := 3) rfl (Or.inl lk_names_apart_first)) (e_var (i := 4) rfl (Or.inl lk_names_apart_second))) (e_one (e_cmp (fun _ A => o_lt A) (e_call h_compare (a_cons (e_ix (e_ix (e_var (i := 2) rfl (Or.inl lk_names_apart_readings)) (e_var (i := 3) rfl (Or.inl lk_names_apart_first))) e_int) (a_cons (e_ix (e_ix (e_var (i := 2) rfl (Or.inl lk_names_apart_readings)) (e_var (i := 4) rfl (Or.inl lk_names_apart_second))) e_int) a_nil)) lk_names_apart_compare) e_int))))))))))
theorem sc_larger : FnScope ["a", "b"] ["a", "b"] (defScope st_larger) := ⟨rfl, rfl, rfl, by decide +kernel, rfl, by decide +kernel, by decide +kernel⟩
theorem nd_larger : (["a", "b"] : List Str).Nodup := sc_larger.nd
theorem kd_larger : (defScope st_larger).kind = .function := rfl
theorem lk_larger_a : (defScope st_larger).names.lookup ("a" : Str) = some .local := by decide +kernel
theorem lk_larger_b : (defScope st_larger).names.lookup ("b" : Str) = some .local := by decide +kernel
theorem lk_larger_compare : (defScope st_larger).names.lookup ("compare" : Str) = some .globalImplicit := by decide +kernel
theorem cal_larger (T : Txt K mg) : Cal0 P w K mg base 5 "larger" 2 m_larger := by
  refine Cal0.of (k := 4) (m := 0) (f := b_larger) T.fn_larger sc_larger rfl rfl fun H0 => ?_
  have h_compare : Cal ⟨P, w, K, mg, base, ["a", "b"], defScope st_larger, fun _ => true, 4, H0, []⟩ "compare" 2 m_compare := (cal_compare T).cal (by decide)
  exact (ss_cons (s_if (t_cmp (fun _ A => o_ge A) (e_call h_compare (a_cons (e_var (i := 0) rfl (Or.inl lk_larger_a)) (a_cons (e_var (i := 1) rfl (Or.inl lk_larger_b)) a_nil)) lk_larger_compare) e_int) (ss_one (s_ret (e_var (i := 0) rfl (Or.inl lk_larger_a)))) ss_nil) (ss_one (s_ret (e_var (i := 1) rfl (Or.inl lk_larger_b)))))
theorem sc_greatest_low : FnScope ["readings", "found", "low", "_"] ["readings"] (defScope st_greatest_low) := ⟨rfl, rfl, rfl, by decide +kernel, rfl, by decide +kernel, by decide +kernel⟩
theorem nd_greatest_low : (["readings", "found", "low", "_"] : List Str).Nodup := sc_greatest_low.nd
theorem kd_greatest_low : (defScope st_greatest_low).kind = .function := rfl
theorem lk_greatest_low__ : (defScope st_greatest_low).names.lookup ("_" : Str) = some .local := by decide +kernel
theorem lk_greatest_low_found : (defScope st_greatest_low).names.lookup ("found" : Str) = some .local := by decide +kernel
theorem lk_greatest_low_larger : (defScope st_greatest_low).names.lookup ("larger" : Str) = some .globalImplicit := by decide +kernel
theorem lk_greatest_low_low : (defScope st_greatest_low).names.lookup ("low" : Str) = some .local := by decide +kernel
theorem lk_greatest_low_readings : (defScope st_greatest_low).names.lookup ("readings" : Str) = some .local := by decide +kernel
theorem cal_greatest_low (T : Txt K mg) : Cal0 P w K mg base 6 "greatest_low" 1 m_greatest_low := by
  refine Cal0.of (k := 5) (m := 3) (f := b_greatest_low) T.fn_greatest_low sc_greatest_low rfl rfl fun H0 => ?_
  have h_larger : Cal ⟨P, w, K, mg, base, ["readings", "found", "low", "_"], defScope st_greatest_low, fun _ => true, 5, H0, []⟩ "larger" 2 m_larger := (cal_larger T).cal (by decide)
  exact (ss_cons (s_set ⟨nd_greatest_low, rfl, Or.inl lk_greatest_low_found, Or.inl rfl⟩ (e_ix (e_ix (e_var (i := 0) rfl (Or.inl lk_greatest_low_readings)) e_int) e_int)) (ss_cons (s_for (i_val (e_var (i := 0) rfl (Or.inl lk_greatest_low_readings))) (g_tp (gs_cons (g_nm ⟨nd_greatest_low, rfl, Or.inl lk_greatest_low_low, Or.inl rfl⟩) (gs_cons (g_nm ⟨nd_greatest_low, rfl, Or.inl lk_greatest_low__, Or.inl rfl⟩) gs_nil))) (ss_one (s_set ⟨nd_greatest_low, rfl, Or.inl lk_greatest_low_found, Or.inl rfl⟩ (e_call h_larger (a_cons (e_var (i := 1) rfl (Or.inl lk_greatest_low_found)) (a_cons (e_var (i := 2) rfl (Or.inl lk_greatest_low_low)) a_nil)) lk_greatest_low_larger)))) (ss_one (s_ret (e_var (i := 1) rfl (Or.inl lk_greatest_low_found))))))
theorem sc_lesser : FnScope ["a", "b"] ["a", "b"] (defScope st_lesser) := ⟨rfl, rfl, rfl, by decide +kernel, rfl, by decide +kernel, by decide +kernel⟩
theorem nd_lesser : (["a", "b"] : List Str).Nodup := sc_lesser.nd
theorem kd_lesser : (defScope st_lesser).kind = .function := rfl
theorem lk_lesser_a : (defScope st_lesser).names.lookup ("a" : Str) = some .local := by decide +kernel
theorem lk_lesser_b : (defScope st_lesser).names.lookup ("b" : Str) = some .local := by decide +kernel
theorem lk_lesser_compare : (defScope st_lesser).names.lookup ("compare" : Str) = some .globalImplicit := by decide +kernel
theorem cal_lesser (T : Txt K mg) : Cal0 P w K mg base 5 "lesser" 2 m_lesser := by
  refine Cal0.of (k := 4) (m := 0) (f := b_lesser) T.fn_lesser sc_lesser rfl rfl fun H0 => ?_
  have h_compare : Cal ⟨P, w, K, mg, base, ["a", "b"], defScope st_lesser, fun _ => true, 4, H0, []⟩ "compare" 2 m_compare := (cal_compare T).cal (by decide)
  exact (ss_cons (s_if (t_cmp (fun _ A => o_le A) (e_call h_compare (a_cons (e_var (i := 0) rfl (Or.inl lk_lesser_a)) (a_cons (e_var (i := 1) rfl (Or.inl lk_lesser_b)) a_nil)) lk_lesser_compare) e_int) (ss_one (s_ret (e_var (i := 0) rfl (Or.inl lk_lesser_a)))) ss_nil) (ss_one (s_ret (e_var (i := 1) rfl (Or.inl lk_lesser_b)))))
theorem sc_least_high : FnScope ["readings", "found", "_", "high"] ["readings"] (defScope st_least_high) := ⟨rfl, rfl, rfl, by decide +kernel, rfl, by decide +kernel, by decide +kernel⟩
theorem nd_least_high : (["readings", "found", "_", "high"] : List Str).Nodup := sc_least_high.nd
theorem kd_least_high : (defScope st_least_high).kind = .function := rfl
theorem lk_least_high__ : (defScope st_least_high).names.lookup ("_" : Str) = some .local := by decide +kernel
theorem lk_least_high_found : (defScope st_least_high).names.lookup ("found" : Str) = some .local := by decide +kernel
theorem lk_least_high_high : (defScope st_least_high).names.lookup ("high" : Str) = some .local := by decide +kernel
theorem lk_least_high_lesser : (defScope st_least_high).names.lookup ("lesser" : Str) = some .globalImplicit := by decide +kernel
theorem lk_least_high_readings : (defScope st_least_high).names.lookup ("readings" : Str) = some .local := by decide +kernel
theorem cal_least_high (T : Txt K mg) : Cal0 P w K mg base 6 "least_high" 1 m_least_high := by
  refine Cal0.of (k := 5) (m := 3) (f := b_least_high) T.fn_least_high sc_least_high rfl rfl fun H0 => ?_
  have h_lesser : Cal ⟨P, w, K, mg, base, ["readings", "found", "_", "high"], defScope st_least_high, fun _ => true, 5, H0, []⟩ "lesser" 2 m_lesser := (cal_lesser T).cal (by decide)
  exact (ss_cons (s_set ⟨nd_least_high, rfl, Or.inl lk_least_high_found, Or.inl rfl⟩ (e_ix (e_ix (e_var (i := 0) rfl (Or.inl lk_least_high_readings)) e_int) e_int)) (ss_cons (s_for (i_val (e_var (i := 0) rfl (Or.inl lk_least_high_readings))) (g_tp (gs_cons (g_nm ⟨nd_least_high, rfl, Or.inl lk_least_high__, Or.inl rfl⟩) (gs_cons (g_nm ⟨nd_least_high, rfl, Or.inl lk_least_high_high, Or.inl rfl⟩) gs_nil))) (ss_one (s_set ⟨nd_least_high, rfl, Or.inl lk_least_high_found, Or.inl rfl⟩ (e_call h_lesser (a_cons (e_var (i := 1) rfl (Or.inl lk_least_high_found)) (a_cons (e_var (i := 3) rfl (Or.inl lk_least_high_high)) a_nil)) lk_least_high_lesser)))) (ss_one (s_ret (e_var (i := 1) rfl (Or.inl lk_least_high_found))))))
theorem sc_are_apart : FnScope ["readings"] ["readings"] (defScope st_are_apart) := ⟨rfl, rfl, rfl, by decide +kernel, rfl, by decide +kernel, by decide +kernel⟩
theorem nd_are_apart : (["readings"] : List Str).Nodup := sc_are_apart.nd
theorem kd_are_apart : (defScope st_are_apart).kind = .function := rfl
theorem lk_are_apart_compare : (defScope st_are_apart).names.lookup ("compare" : Str) = some .globalImplicit := by decide +kernel
theorem lk_are_apart_greatest_low : (defScope st_are_apart).names.lookup ("greatest_low" : Str) = some .globalImplicit := by decide +kernel
theorem lk_are_apart_least_high : (defScope st_are_apart).names.lookup ("least_high" : Str) = some .globalImplicit := by decide +kernel
theorem lk_are_apart_readings : (defScope st_are_apart).names.lookup ("readings" : Str) = some .local := by decide +kernel
theorem cal_are_apart (T : Txt K mg) : Cal0 P w K mg base 7 "are_apart" 1 m_are_apart := by
  refine Cal0.of (k := 6) (m := 0) (f := b_are_apart) T.fn_are_apart sc_are_apart rfl rfl fun H0 => ?_
  have h_compare : Cal ⟨P, w, K, mg, base, ["readings"], defScope st_are_apart, fun _ => true, 6, H0, []⟩ "compare" 2 m_compare := (cal_compare T).cal (by decide)
  have h_greatest_low : Cal ⟨P, w, K, mg, base, ["readings"], defScope st_are_apart, fun _ => true, 6, H0, []⟩ "greatest_low" 1 m_greatest_low := (cal_greatest_low T).cal (by decide)
  have h_least_high : Cal ⟨P, w, K, mg, base, ["readings"], defScope st_are_apart, fun _ => true, 6, H0, []⟩ "least_high" 1 m_least_high := (cal_least_high T).cal (by decide)
  exact (ss_one (s_ret (e_cmp (fun _ A => o_gt A) (e_call h_compare (a_cons (e_call h_greatest_low (a_cons (e_var (i := 0) rfl (Or.inl lk_are_apart_readings)) a_nil) lk_are_apart_greatest_low) (a_cons (e_call h_least_high (a_cons (e_var (i := 0) rfl (Or.inl lk_are_apart_readings)) a_nil) lk_are_apart_least_high) a_nil)) lk_are_apart_compare) e_int)))
theorem sc_any_apart : FnScope ["terms", "_", "readings"] ["terms"] (defScope st_any_apart) := ⟨rfl, rfl, rfl, by decide +kernel, rfl, by decide +kernel, by decide +kernel⟩
theorem nd_any_apart : (["terms", "_", "readings"] : List Str).Nodup := sc_any_apart.nd
theorem kd_any_apart : (defScope st_any_apart).kind = .function := rfl
theorem lk_any_apart_any : (defScope st_any_apart).names.lookup ("any" : Str) = some .globalImplicit := by decide +kernel
theorem lk_any_apart_terms : (defScope st_any_apart).names.lookup ("terms" : Str) = some .local := by decide +kernel
theorem cal_any_apart (T : Txt K mg) : Cal0 P w K mg base 8 "any_apart" 1 m_any_apart := by
  refine Cal0.of (k := 7) (m := 2) (f := b_any_apart) T.fn_any_apart sc_any_apart rfl rfl fun H0 => ?_
  have h_are_apart : Cal ⟨P, w, K, mg, base, ["terms", "_", "readings"], defScope st_any_apart, fun _ => true, 7, H0, []⟩ "are_apart" 1 m_are_apart := (cal_are_apart T).cal (by decide)
  exact (ss_one (s_ret (e_cb (fun _ A => c_any A) T.no_any rfl (a_cons (e_lc (own := [("_", 1), ("readings", 2)]) nd_any_apart (by dsimp only; decide +kernel) rfl rfl (i_val (e_var (i := 0) rfl (Or.inl lk_any_apart_terms))) (fun _ => (g_tp (gs_cons (g_nm ⟨nd_any_apart, rfl, (by first | exact Or.inl rfl | exact Or.inr rfl), (by first | exact Or.inl rfl | exact Or.inr rfl)⟩) (gs_cons (g_nm ⟨nd_any_apart, rfl, (by first | exact Or.inl rfl | exact Or.inr rfl), (by first | exact Or.inl rfl | exact Or.inr rfl)⟩) gs_nil)))) (fun _ => ts_no) (fun _ => (e_call ⟨h_are_apart.ex⟩ (a_cons (e_var (i := 2) rfl ) a_nil) ))) a_nil) lk_any_apart_any)))
theorem sc_minus : FnScope ["a", "b"] ["a", "b"] (defScope st_minus) := ⟨rfl, rfl, rfl, by decide +kernel, rfl, by decide +kernel, by decide +kernel⟩
theorem nd_minus : (["a", "b"] : List Str).Nodup := sc_minus.nd
theorem kd_minus : (defScope st_minus).kind = .function := rfl
theorem lk_minus_a : (defScope st_minus).names.lookup ("a" : Str) = some .local := by decide +kernel
theorem lk_minus_b : (defScope st_minus).names.lookup ("b" : Str) = some .local := by decide +kernel
theorem lk_minus_check_ratio : (defScope st_minus).names.lookup ("check_ratio" : Str) = some .globalImplicit := by decide +kernel
theorem lk_minus_ratio : (defScope st_minus).names.lookup ("ratio" : Str) = some .globalImplicit := by decide +kernel
theorem cal_minus (T : Txt K mg) : Cal0 P w K mg base 4 "minus" 2 m_minus := by
  refine Cal0.of (k := 3) (m := 0) (f := b_minus) T.fn_minus sc_minus rfl rfl fun H0 => ?_
  have h_check_ratio : Cal ⟨P, w, K, mg, base, ["a", "b"], defScope st_minus, fun _ => true, 3, H0, []⟩ "check_ratio" 1 m_check_ratio := (cal_check_ratio T).cal (by decide)
  have h_ratio : Cal ⟨P, w, K, mg, base, ["a", "b"], defScope st_minus, fun _ => true, 3, H0, []⟩ "ratio" 2 m_ratio := (cal_ratio T).cal (by decide)
  exact (ss_cons (s_ex (e_call h_check_ratio (a_cons (e_var (i := 0) rfl (Or.inl lk_minus_a)) a_nil) lk_minus_check_ratio)) (ss_cons (s_ex (e_call h_check_ratio (a_cons (e_var (i := 1) rfl (Or.inl lk_minus_b)) a_nil) lk_minus_check_ratio)) (ss_one (s_ret (e_call h_ratio (a_cons (e_bin (fun _ A => o_sub A) (e_bin (fun _ A => o_mul A) (e_ix (e_var (i := 0) rfl (Or.inl lk_minus_a)) e_int) (e_ix (e_var (i := 1) rfl (Or.inl lk_minus_b)) e_int)) (e_bin (fun _ A => o_mul A) (e_ix (e_var (i := 1) rfl (Or.inl lk_minus_b)) e_int) (e_ix (e_var (i := 0) rfl (Or.inl lk_minus_a)) e_int))) (a_cons (e_bin (fun _ A => o_mul A) (e_ix (e_var (i := 0) rfl (Or.inl lk_minus_a)) e_int) (e_ix (e_var (i := 1) rfl (Or.inl lk_minus_b)) e_int)) a_nil)) lk_minus_ratio)))))
theorem sc_signed_bounds : FnScope ["terms", "found", "sign", "readings", "low", "high"] ["terms"] (defScope st_signed_bounds) := ⟨rfl, rfl, rfl, by decide +kernel, rfl, by decide +kernel, by decide +kernel⟩
theorem nd_signed_bounds : (["terms", "found", "sign", "readings", "low", "high"] : List Str).Nodup := sc_signed_bounds.nd
theorem kd_signed_bounds : (defScope st_signed_bounds).kind = .function := rfl
theorem lk_signed_bounds_found : (defScope st_signed_bounds).names.lookup ("found" : Str) = some .local := by decide +kernel
theorem lk_signed_bounds_greatest_low : (defScope st_signed_bounds).names.lookup ("greatest_low" : Str) = some .globalImplicit := by decide +kernel
theorem lk_signed_bounds_high : (defScope st_signed_bounds).names.lookup ("high" : Str) = some .local := by decide +kernel
theorem lk_signed_bounds_least_high : (defScope st_signed_bounds).names.lookup ("least_high" : Str) = some .globalImplicit := by decide +kernel
theorem lk_signed_bounds_low : (defScope st_signed_bounds).names.lookup ("low" : Str) = some .local := by decide +kernel
theorem lk_signed_bounds_minus : (defScope st_signed_bounds).names.lookup ("minus" : Str) = some .globalImplicit := by decide +kernel
theorem lk_signed_bounds_readings : (defScope st_signed_bounds).names.lookup ("readings" : Str) = some .local := by decide +kernel
theorem lk_signed_bounds_sign : (defScope st_signed_bounds).names.lookup ("sign" : Str) = some .local := by decide +kernel
theorem lk_signed_bounds_terms : (defScope st_signed_bounds).names.lookup ("terms" : Str) = some .local := by decide +kernel
theorem lk_signed_bounds_tuple : (defScope st_signed_bounds).names.lookup ("tuple" : Str) = some .globalImplicit := by decide +kernel
theorem cal_signed_bounds (T : Txt K mg) : Cal0 P w K mg base 7 "signed_bounds" 1 m_signed_bounds := by
  refine Cal0.of (k := 6) (m := 5) (f := b_signed_bounds) T.fn_signed_bounds sc_signed_bounds rfl rfl fun H0 => ?_
  have h_greatest_low : Cal ⟨P, w, K, mg, base, ["terms", "found", "sign", "readings", "low", "high"], defScope st_signed_bounds, fun _ => true, 6, H0, []⟩ "greatest_low" 1 m_greatest_low := (cal_greatest_low T).cal (by decide)
  have h_least_high : Cal ⟨P, w, K, mg, base, ["terms", "found", "sign", "readings", "low", "high"], defScope st_signed_bounds, fun _ => true, 6, H0, []⟩ "least_high" 1 m_least_high := (cal_least_high T).cal (by decide)
  have h_minus : Cal ⟨P, w, K, mg, base, ["terms", "found", "sign", "readings", "low", "high"], defScope st_signed_bounds, fun _ => true, 6, H0, []⟩ "minus" 2 m_minus := (cal_minus T).cal (by decide)
  exact (ss_cons (s_set ⟨nd_signed_bounds, rfl, Or.inl lk_signed_bounds_found, Or.inl rfl⟩ (e_lst a_nil)) (ss_cons (s_for (i_val (e_var (i := 0) rfl (Or.inl lk_signed_bounds_terms))) (g_tp (gs_cons (g_nm ⟨nd_signed_bounds, rfl, Or.inl lk_signed_bounds_sign, Or.inl rfl⟩) (gs_cons (g_nm ⟨nd_signed_bounds, rfl, Or.inl lk_signed_bounds_readings, Or.inl rfl⟩) gs_nil))) (ss_cons (s_set ⟨nd_signed_bounds, rfl, Or.inl lk_signed_bounds_low, Or.inl rfl⟩ (e_call h_greatest_low (a_cons (e_var (i := 3) rfl (Or.inl lk_signed_bounds_readings)) a_nil) lk_signed_bounds_greatest_low)) (ss_cons (s_set ⟨nd_signed_bounds, rfl, Or.inl lk_signed_bounds_high, Or.inl rfl⟩ (e_call h_least_high (a_cons (e_var (i := 3) rfl (Or.inl lk_signed_bounds_readings)) a_nil) lk_signed_bounds_least_high)) (ss_one (s_if (t_cmp (fun _ A => o_eq A) (e_var (i := 2) rfl (Or.inl lk_signed_bounds_sign)) e_int) (ss_one (s_ex (e_ml (i := 1) PySem.F.slot_list_append PySem.F.type_list_append (fun _ A => m_append A) (a_cons (e_tup (a_cons (e_var (i := 4) rfl (Or.inl lk_signed_bounds_low)) (a_cons (e_var (i := 5) rfl (Or.inl lk_signed_bounds_high)) a_nil))) a_nil) rfl (Or.inl lk_signed_bounds_found)))) (ss_one (s_ex (e_ml (i := 1) PySem.F.slot_list_append PySem.F.type_list_append (fun _ A => m_append A) (a_cons (e_tup (a_cons (e_call h_minus (a_cons (e_glob ⟨T.con_ZERO⟩) (a_cons (e_var (i := 5) rfl (Or.inl lk_signed_bounds_high)) a_nil)) lk_signed_bounds_minus) (a_cons (e_call h_minus (a_cons (e_glob ⟨T.con_ZERO⟩) (a_cons (e_var (i := 4) rfl (Or.inl lk_signed_bounds_low)) a_nil)) lk_signed_bounds_minus) a_nil))) a_nil) rfl (Or.inl lk_signed_bounds_found))))))))) (ss_one (s_ret (e_cty (fun _ A => c_tup A) T.no_tuple rfl (a_cons (e_var (i := 1) rfl (Or.inl lk_signed_bounds_found)) a_nil) lk_signed_bounds_tuple)))))
theorem sc_is_unsound : FnScope ["subject", "paper", "terms", "least", "greatest", "low", "high"] ["subject", "paper"] (defScope st_is_unsound) := ⟨rfl, rfl, rfl, by decide +kernel, rfl, by decide +kernel, by decide +kernel⟩
theorem nd_is_unsound : (["subject", "paper", "terms", "least", "greatest", "low", "high"] : List Str).Nodup := sc_is_unsound.nd
theorem kd_is_unsound : (defScope st_is_unsound).kind = .function := rfl
theorem lk_is_unsound_any_apart : (defScope st_is_unsound).names.lookup ("any_apart" : Str) = some .globalImplicit := by decide +kernel
theorem lk_is_unsound_compare : (defScope st_is_unsound).names.lookup ("compare" : Str) = some .globalImplicit := by decide +kernel
theorem lk_is_unsound_greatest : (defScope st_is_unsound).names.lookup ("greatest" : Str) = some .local := by decide +kernel
theorem lk_is_unsound_high : (defScope st_is_unsound).names.lookup ("high" : Str) = some .local := by decide +kernel
theorem lk_is_unsound_is_ratio : (defScope st_is_unsound).names.lookup ("is_ratio" : Str) = some .globalImplicit := by decide +kernel
theorem lk_is_unsound_is_tuple_of : (defScope st_is_unsound).names.lookup ("is_tuple_of" : Str) = some .globalImplicit := by decide +kernel
theorem lk_is_unsound_isinstance : (defScope st_is_unsound).names.lookup ("isinstance" : Str) = some .globalImplicit := by decide +kernel
theorem lk_is_unsound_least : (defScope st_is_unsound).names.lookup ("least" : Str) = some .local := by decide +kernel
theorem lk_is_unsound_len : (defScope st_is_unsound).names.lookup ("len" : Str) = some .globalImplicit := by decide +kernel
theorem lk_is_unsound_low : (defScope st_is_unsound).names.lookup ("low" : Str) = some .local := by decide +kernel
theorem lk_is_unsound_minus : (defScope st_is_unsound).names.lookup ("minus" : Str) = some .globalImplicit := by decide +kernel
theorem lk_is_unsound_names_apart : (defScope st_is_unsound).names.lookup ("names_apart" : Str) = some .globalImplicit := by decide +kernel
theorem lk_is_unsound_paper : (defScope st_is_unsound).names.lookup ("paper" : Str) = some .local := by decide +kernel
theorem lk_is_unsound_signed_bounds : (defScope st_is_unsound).names.lookup ("signed_bounds" : Str) = some .globalImplicit := by decide +kernel
theorem lk_is_unsound_str : (defScope st_is_unsound).names.lookup ("str" : Str) = some .globalImplicit := by decide +kernel
theorem lk_is_unsound_subject : (defScope st_is_unsound).names.lookup ("subject" : Str) = some .local := by decide +kernel
theorem lk_is_unsound_sums : (defScope st_is_unsound).names.lookup ("sums" : Str) = some .globalImplicit := by decide +kernel
theorem lk_is_unsound_terms : (defScope st_is_unsound).names.lookup ("terms" : Str) = some .local := by decide +kernel
theorem cal_is_unsound (T : Txt K mg) : Cal0 P w K mg base 9 "is_unsound" 2 m_is_unsound := by
  refine Cal0.of (k := 8) (m := 5) (f := b_is_unsound) T.fn_is_unsound sc_is_unsound rfl rfl fun H0 => ?_
  have h_is_tuple_of : Cal ⟨P, w, K, mg, base, ["subject", "paper", "terms", "least", "greatest", "low", "high"], defScope st_is_unsound, fun _ => true, 8, H0, []⟩ "is_tuple_of" 3 m_is_tuple_of := (cal_is_tuple_of T).cal (by decide)
  have h_is_ratio : Cal ⟨P, w, K, mg, base, ["subject", "paper", "terms", "least", "greatest", "low", "high"], defScope st_is_unsound, fun _ => true, 8, H0, []⟩ "is_ratio" 1 m_is_ratio := (cal_is_ratio T).cal (by decide)
  have h_compare : Cal ⟨P, w, K, mg, base, ["subject", "paper", "terms", "least", "greatest", "low", "high"], defScope st_is_unsound, fun _ => true, 8, H0, []⟩ "compare" 2 m_compare := (cal_compare T).cal (by decide)
  have h_sums : Cal ⟨P, w, K, mg, base, ["subject", "paper", "terms", "least", "greatest", "low", "high"], defScope st_is_unsound, fun _ => true, 8, H0, []⟩ "sums" 1 m_sums := (cal_sums T).cal (by decide)
  have h_names_apart : Cal ⟨P, w, K, mg, base, ["subject", "paper", "terms", "least", "greatest", "low", "high"], defScope st_is_unsound, fun _ => true, 8, H0, []⟩ "names_apart" 2 m_names_apart := (cal_names_apart T).cal (by decide)
  have h_any_apart : Cal ⟨P, w, K, mg, base, ["subject", "paper", "terms", "least", "greatest", "low", "high"], defScope st_is_unsound, fun _ => true, 8, H0, []⟩ "any_apart" 1 m_any_apart := (cal_any_apart T).cal (by decide)
  have h_minus : Cal ⟨P, w, K, mg, base, ["subject", "paper", "terms", "least", "greatest", "low", "high"], defScope st_is_unsound, fun _ => true, 8, H0, []⟩ "minus" 2 m_minus := (cal_minus T).cal (by decide)
  have h_signed_bounds : Cal ⟨P, w, K, mg, base, ["subject", "paper", "terms", "least", "greatest", "low", "high"], defScope st_is_unsound, fun _ => true, 8, H0, []⟩ "signed_bounds" 1 m_signed_bounds := (cal_signed_bounds T).cal (by decide)
  exact (ss_cons (s_if (t_w (w_or (t_not (t_tru (e_call h_is_tuple_of (a_cons (e_var (i := 1) rfl (Or.inl lk_is_unsound_paper)) (a_cons e_int (a_cons e_int a_nil))) lk_is_unsound_is_tuple_of))) (w_or1 (t_not (t_isi .str rfl T.no_isinstance T.no_str (e_ix (e_var (i := 1) rfl (Or.inl lk_is_unsound_paper)) e_int) lk_is_unsound_isinstance lk_is_unsound_str))))) (ss_one (s_ret e_bl)) ss_nil) (ss_cons (s_asg (e_var (i := 0) rfl (Or.inl lk_is_unsound_subject)) (g_tp (gs_cons (g_nm ⟨nd_is_unsound, rfl, Or.inl lk_is_unsound_terms, Or.inl rfl⟩) (gs_cons (g_tp (gs_cons (g_nm ⟨nd_is_unsound, rfl, Or.inl lk_is_unsound_low, Or.inl rfl⟩) (gs_cons (g_nm ⟨nd_is_unsound, rfl, Or.inl lk_is_unsound_high, Or.inl rfl⟩) gs_nil))) gs_nil)))) (ss_cons (s_if (t_cmp (fun _ A => o_eq A) (e_ix (e_var (i := 1) rfl (Or.inl lk_is_unsound_paper)) e_int) e_str) (ss_one (s_ret (e_call h_names_apart (a_cons (e_var (i := 2) rfl (Or.inl lk_is_unsound_terms)) (a_cons (e_var (i := 1) rfl (Or.inl lk_is_unsound_paper)) a_nil)) lk_is_unsound_names_apart))) ss_nil) (ss_cons (s_if (t_w (w_or (t_cmp (fun _ A => o_ne A) (e_cb (fun _ A => c_len1 A) T.no_len rfl (a_cons (e_var (i := 1) rfl (Or.inl lk_is_unsound_paper)) a_nil) lk_is_unsound_len) e_int) (w_or (t_not (t_tru (e_call h_is_ratio (a_cons (e_ix (e_var (i := 1) rfl (Or.inl lk_is_unsound_paper)) e_int) a_nil) lk_is_unsound_is_ratio))) (w_or (t_cmp (fun _ A => o_le A) (e_call h_compare (a_cons (e_ix (e_var (i := 1) rfl (Or.inl lk_is_unsound_paper)) e_int) (a_cons (e_glob ⟨T.con_ZERO⟩) a_nil)) lk_is_unsound_compare) e_int) (w_or1 (t_tru (e_call h_any_apart (a_cons (e_var (i := 2) rfl (Or.inl lk_is_unsound_terms)) a_nil) lk_is_unsound_any_apart))))))) (ss_one (s_ret e_bl)) ss_nil) (ss_cons (s_asg (e_call h_sums (a_cons (e_call h_signed_bounds (a_cons (e_var (i := 2) rfl (Or.inl lk_is_unsound_terms)) a_nil) lk_is_unsound_signed_bounds) a_nil) lk_is_unsound_sums) (g_tp (gs_cons (g_nm ⟨nd_is_unsound, rfl, Or.inl lk_is_unsound_least, Or.inl rfl⟩) (gs_cons (g_nm ⟨nd_is_unsound, rfl, Or.inl lk_is_unsound_greatest, Or.inl rfl⟩) gs_nil)))) (ss_cons (s_if (t_cmp (fun _ A => o_eq A) (e_ix (e_var (i := 1) rfl (Or.inl lk_is_unsound_paper)) e_int) e_str) (ss_one (s_ret (e_cmp (fun _ A => o_eq A) (e_call h_compare (a_cons (e_ix (e_var (i := 1) rfl (Or.inl lk_is_unsound_paper)) e_int) (a_cons (e_call h_minus (a_cons (e_var (i := 3) rfl (Or.inl lk_is_unsound_least)) (a_cons (e_var (i := 6) rfl (Or.inl lk_is_unsound_high)) a_nil)) lk_is_unsound_minus) a_nil)) lk_is_unsound_compare) e_int))) ss_nil) (ss_one (s_ret (e_and (e_cmp (fun _ A => o_eq A) (e_ix (e_var (i := 1) rfl (Or.inl lk_is_unsound_paper)) e_int) e_str) (e_one (e_cmp (fun _ A => o_eq A) (e_call h_compare (a_cons (e_ix (e_var (i := 1) rfl (Or.inl lk_is_unsound_paper)) e_int) (a_cons (e_call h_minus (a_cons (e_var (i := 5) rfl (Or.inl lk_is_unsound_low)) (a_cons (e_var (i := 4) rfl (Or.inl lk_is_unsound_greatest)) a_nil)) lk_is_unsound_minus) a_nil)) lk_is_unsound_compare) e_int)))))))))))
theorem sc_is_answer : FnScope ["value"] ["value"] (defScope st_is_answer) := ⟨rfl, rfl, rfl, by decide +kernel, rfl, by decide +kernel, by decide +kernel⟩
theorem nd_is_answer : (["value"] : List Str).Nodup := sc_is_answer.nd
theorem kd_is_answer : (defScope st_is_answer).kind = .function := rfl
theorem lk_is_answer_is_tuple_of : (defScope st_is_answer).names.lookup ("is_tuple_of" : Str) = some .globalImplicit := by decide +kernel
theorem lk_is_answer_isinstance : (defScope st_is_answer).names.lookup ("isinstance" : Str) = some .globalImplicit := by decide +kernel
theorem lk_is_answer_str : (defScope st_is_answer).names.lookup ("str" : Str) = some .globalImplicit := by decide +kernel
theorem lk_is_answer_value : (defScope st_is_answer).names.lookup ("value" : Str) = some .local := by decide +kernel
theorem cal_is_answer (T : Txt K mg) : Cal0 P w K mg base 2 "is_answer" 1 m_is_answer := by
  refine Cal0.of (k := 1) (m := 0) (f := b_is_answer) T.fn_is_answer sc_is_answer rfl rfl fun H0 => ?_
  have h_is_tuple_of : Cal ⟨P, w, K, mg, base, ["value"], defScope st_is_answer, fun _ => true, 1, H0, []⟩ "is_tuple_of" 3 m_is_tuple_of := (cal_is_tuple_of T).cal (by decide)
  exact (ss_cons (s_if (t_w (w_or (t_not (t_tru (e_call h_is_tuple_of (a_cons (e_var (i := 0) rfl (Or.inl lk_is_answer_value)) (a_cons e_int (a_cons e_int a_nil))) lk_is_answer_is_tuple_of))) (w_or1 (t_not (t_isi .str rfl T.no_isinstance T.no_str (e_ix (e_var (i := 0) rfl (Or.inl lk_is_answer_value)) e_int) lk_is_answer_isinstance lk_is_answer_str))))) (ss_one (s_ret e_bl)) ss_nil) (ss_one (s_ret (e_or (e_cmp (fun _ A => o_eq A) (e_ix (e_var (i := 0) rfl (Or.inl lk_is_answer_value)) e_int) e_str) (e_one (e_cmp (fun _ A => o_eq A) (e_ix (e_var (i := 0) rfl (Or.inl lk_is_answer_value)) e_int) e_str))))))
theorem sc_lies_in : FnScope ["value", "bounds"] ["value", "bounds"] (defScope st_lies_in) := ⟨rfl, rfl, rfl, by decide +kernel, rfl, by decide +kernel, by decide +kernel⟩
theorem nd_lies_in : (["value", "bounds"] : List Str).Nodup := sc_lies_in.nd
theorem kd_lies_in : (defScope st_lies_in).kind = .function := rfl
theorem lk_lies_in_bounds : (defScope st_lies_in).names.lookup ("bounds" : Str) = some .local := by decide +kernel
theorem lk_lies_in_compare : (defScope st_lies_in).names.lookup ("compare" : Str) = some .globalImplicit := by decide +kernel
theorem lk_lies_in_value : (defScope st_lies_in).names.lookup ("value" : Str) = some .local := by decide +kernel
theorem cal_lies_in (T : Txt K mg) : Cal0 P w K mg base 5 "lies_in" 2 m_lies_in := by
  refine Cal0.of (k := 4) (m := 0) (f := b_lies_in) T.fn_lies_in sc_lies_in rfl rfl fun H0 => ?_
  have h_compare : Cal ⟨P, w, K, mg, base, ["value", "bounds"], defScope st_lies_in, fun _ => true, 4, H0, []⟩ "compare" 2 m_compare := (cal_compare T).cal (by decide)
  exact (ss_one (s_ret (e_and (e_cmp (fun _ A => o_le A) (e_call h_compare (a_cons (e_ix (e_var (i := 1) rfl (Or.inl lk_lies_in_bounds)) e_int) (a_cons (e_var (i := 0) rfl (Or.inl lk_lies_in_value)) a_nil)) lk_lies_in_compare) e_int) (e_one (e_cmp (fun _ A => o_le A) (e_call h_compare (a_cons (e_var (i := 0) rfl (Or.inl lk_lies_in_value)) (a_cons (e_ix (e_var (i := 1) rfl (Or.inl lk_lies_in_bounds)) e_int) a_nil)) lk_lies_in_compare) e_int)))))
theorem sc_times : FnScope ["a", "b"] ["a", "b"] (defScope st_times) := ⟨rfl, rfl, rfl, by decide +kernel, rfl, by decide +kernel, by decide +kernel⟩
theorem nd_times : (["a", "b"] : List Str).Nodup := sc_times.nd
theorem kd_times : (defScope st_times).kind = .function := rfl
theorem lk_times_a : (defScope st_times).names.lookup ("a" : Str) = some .local := by decide +kernel
theorem lk_times_b : (defScope st_times).names.lookup ("b" : Str) = some .local := by decide +kernel
theorem lk_times_check_ratio : (defScope st_times).names.lookup ("check_ratio" : Str) = some .globalImplicit := by decide +kernel
theorem lk_times_ratio : (defScope st_times).names.lookup ("ratio" : Str) = some .globalImplicit := by decide +kernel
theorem cal_times (T : Txt K mg) : Cal0 P w K mg base 4 "times" 2 m_times := by
  refine Cal0.of (k := 3) (m := 0) (f := b_times) T.fn_times sc_times rfl rfl fun H0 => ?_
  have h_check_ratio : Cal ⟨P, w, K, mg, base, ["a", "b"], defScope st_times, fun _ => true, 3, H0, []⟩ "check_ratio" 1 m_check_ratio := (cal_check_ratio T).cal (by decide)
  have h_ratio : Cal ⟨P, w, K, mg, base, ["a", "b"], defScope st_times, fun _ => true, 3, H0, []⟩ "ratio" 2 m_ratio := (cal_ratio T).cal (by decide)
  exact (ss_cons (s_ex (e_call h_check_ratio (a_cons (e_var (i := 0) rfl (Or.inl lk_times_a)) a_nil) lk_times_check_ratio)) (ss_cons (s_ex (e_call h_check_ratio (a_cons (e_var (i := 1) rfl (Or.inl lk_times_b)) a_nil) lk_times_check_ratio)) (ss_one (s_ret (e_call h_ratio (a_cons (e_bin (fun _ A => o_mul A) (e_ix (e_var (i := 0) rfl (Or.inl lk_times_a)) e_int) (e_ix (e_var (i := 1) rfl (Or.inl lk_times_b)) e_int)) (a_cons (e_bin (fun _ A => o_mul A) (e_ix (e_var (i := 0) rfl (Or.inl lk_times_a)) e_int) (e_ix (e_var (i := 1) rfl (Or.inl lk_times_b)) e_int)) a_nil)) lk_times_ratio)))))
theorem sc_with_signs : FnScope ["terms", "values", "term", "value"] ["terms", "values"] (defScope st_with_signs) := ⟨rfl, rfl, rfl, by decide +kernel, rfl, by decide +kernel, by decide +kernel⟩
theorem nd_with_signs : (["terms", "values", "term", "value"] : List Str).Nodup := sc_with_signs.nd
theorem kd_with_signs : (defScope st_with_signs).kind = .function := rfl
theorem lk_with_signs_terms : (defScope st_with_signs).names.lookup ("terms" : Str) = some .local := by decide +kernel
theorem lk_with_signs_tuple : (defScope st_with_signs).names.lookup ("tuple" : Str) = some .globalImplicit := by decide +kernel
theorem lk_with_signs_values : (defScope st_with_signs).names.lookup ("values" : Str) = some .local := by decide +kernel
theorem lk_with_signs_zip : (defScope st_with_signs).names.lookup ("zip" : Str) = some .globalImplicit := by decide +kernel
theorem cal_with_signs (T : Txt K mg) : Cal0 P w K mg base 5 "with_signs" 2 m_with_signs := by
  refine Cal0.of (k := 4) (m := 2) (f := b_with_signs) T.fn_with_signs sc_with_signs rfl rfl fun H0 => ?_
  have h_times : Cal ⟨P, w, K, mg, base, ["terms", "values", "term", "value"], defScope st_with_signs, fun _ => true, 4, H0, []⟩ "times" 2 m_times := (cal_times T).cal (by decide)
  exact (ss_one (s_ret (e_cty (fun _ A => c_tup A) T.no_tuple rfl (a_cons (e_lc (own := [("term", 2), ("value", 3)]) nd_with_signs (by dsimp only; decide +kernel) rfl rfl (i_zp T.no_zip (a_cons (e_var (i := 0) rfl (Or.inl lk_with_signs_terms)) (a_cons (e_var (i := 1) rfl (Or.inl lk_with_signs_values)) a_nil)) lk_with_signs_zip) (fun _ => (g_tp (gs_cons (g_nm ⟨nd_with_signs, rfl, (by first | exact Or.inl rfl | exact Or.inr rfl), (by first | exact Or.inl rfl | exact Or.inr rfl)⟩) (gs_cons (g_nm ⟨nd_with_signs, rfl, (by first | exact Or.inl rfl | exact Or.inr rfl), (by first | exact Or.inl rfl | exact Or.inr rfl)⟩) gs_nil)))) (fun _ => ts_no) (fun _ => (e_call ⟨h_times.ex⟩ (a_cons (e_tup (a_cons (e_ix (e_var (i := 2) rfl ) e_int) (a_cons e_int a_nil))) (a_cons (e_var (i := 3) rfl ) a_nil)) ))) a_nil) lk_with_signs_tuple)))
theorem sc_are_measures : FnScope ["subject", "paper", "terms", "value", "_", "readings", "item", "reading"] ["subject", "paper"] (defScope st_are_measures) := ⟨rfl, rfl, rfl, by decide +kernel, rfl, by decide +kernel, by decide +kernel⟩
theorem nd_are_measures : (["subject", "paper", "terms", "value", "_", "readings", "item", "reading"] : List Str).Nodup := sc_are_measures.nd
theorem kd_are_measures : (defScope st_are_measures).kind = .function := rfl
theorem lk_are_measures__ : (defScope st_are_measures).names.lookup ("_" : Str) = some .local := by decide +kernel
theorem lk_are_measures_all : (defScope st_are_measures).names.lookup ("all" : Str) = some .globalImplicit := by decide +kernel
theorem lk_are_measures_is_tuple_of : (defScope st_are_measures).names.lookup ("is_tuple_of" : Str) = some .globalImplicit := by decide +kernel
theorem lk_are_measures_len : (defScope st_are_measures).names.lookup ("len" : Str) = some .globalImplicit := by decide +kernel
theorem lk_are_measures_lies_in : (defScope st_are_measures).names.lookup ("lies_in" : Str) = some .globalImplicit := by decide +kernel
theorem lk_are_measures_paper : (defScope st_are_measures).names.lookup ("paper" : Str) = some .local := by decide +kernel
theorem lk_are_measures_readings : (defScope st_are_measures).names.lookup ("readings" : Str) = some .local := by decide +kernel
theorem lk_are_measures_subject : (defScope st_are_measures).names.lookup ("subject" : Str) = some .local := by decide +kernel
theorem lk_are_measures_terms : (defScope st_are_measures).names.lookup ("terms" : Str) = some .local := by decide +kernel
theorem lk_are_measures_total : (defScope st_are_measures).names.lookup ("total" : Str) = some .globalImplicit := by decide +kernel
theorem lk_are_measures_value : (defScope st_are_measures).names.lookup ("value" : Str) = some .cell := by decide +kernel
theorem lk_are_measures_with_signs : (defScope st_are_measures).names.lookup ("with_signs" : Str) = some .globalImplicit := by decide +kernel
theorem lk_are_measures_zip : (defScope st_are_measures).names.lookup ("zip" : Str) = some .globalImplicit := by decide +kernel
theorem cal_are_measures (T : Txt K mg) : Cal0 P w K mg base 6 "are_measures" 2 m_are_measures := by
  refine Cal0.of (k := 5) (m := 6) (f := b_are_measures) T.fn_are_measures sc_are_measures rfl rfl fun H0 => ?_
  have h_is_tuple_of : Cal ⟨P, w, K, mg, base, ["subject", "paper", "terms", "value", "_", "readings", "item", "reading"], defScope st_are_measures, fun _ => true, 5, H0, []⟩ "is_tuple_of" 3 m_is_tuple_of := (cal_is_tuple_of T).cal (by decide)
  have h_is_ratio : Cal ⟨P, w, K, mg, base, ["subject", "paper", "terms", "value", "_", "readings", "item", "reading"], defScope st_are_measures, fun _ => true, 5, H0, []⟩ "is_ratio" 1 m_is_ratio := (cal_is_ratio T).cal (by decide)
  have h_total : Cal ⟨P, w, K, mg, base, ["subject", "paper", "terms", "value", "_", "readings", "item", "reading"], defScope st_are_measures, fun _ => true, 5, H0, []⟩ "total" 1 m_total := (cal_total T).cal (by decide)
  have h_lies_in : Cal ⟨P, w, K, mg, base, ["subject", "paper", "terms", "value", "_", "readings", "item", "reading"], defScope st_are_measures, fun _ => true, 5, H0, []⟩ "lies_in" 2 m_lies_in := (cal_lies_in T).cal (by decide)
  have h_with_signs : Cal ⟨P, w, K, mg, base, ["subject", "paper", "terms", "value", "_", "readings", "item", "reading"], defScope st_are_measures, fun _ => true, 5, H0, []⟩ "with_signs" 2 m_with_signs := (cal_with_signs T).cal (by decide)
  exact (ss_cons (s_set ⟨nd_are_measures, rfl, Or.inl lk_are_measures_terms, Or.inl rfl⟩ (e_ix (e_var (i := 0) rfl (Or.inl lk_are_measures_subject)) e_int)) (ss_cons (s_if (t_w (w_or (t_not (t_tru (e_call h_is_tuple_of (a_cons (e_var (i := 1) rfl (Or.inl lk_are_measures_paper)) (a_cons (e_cb (fun _ A => c_len1 A) T.no_len rfl (a_cons (e_var (i := 2) rfl (Or.inl lk_are_measures_terms)) a_nil) lk_are_measures_len) (a_cons (e_cb (fun _ A => c_len1 A) T.no_len rfl (a_cons (e_var (i := 2) rfl (Or.inl lk_are_measures_terms)) a_nil) lk_are_measures_len) a_nil))) lk_are_measures_is_tuple_of))) (w_or1 (t_not (t_tru (e_cb (fun _ A => c_all A) T.no_all rfl (a_cons (e_lc (own := [("item", 6)]) nd_are_measures (by dsimp only; decide +kernel) rfl rfl (i_val (e_var (i := 1) rfl (Or.inl lk_are_measures_paper))) (fun _ => (g_nm ⟨nd_are_measures, rfl, (by first | exact Or.inl rfl | exact Or.inr rfl), (by first | exact Or.inl rfl | exact Or.inr rfl)⟩)) (fun _ => ts_no) (fun _ => (e_call ⟨h_is_ratio.ex⟩ (a_cons (e_var (i := 6) rfl ) a_nil) ))) a_nil) lk_are_measures_all)))))) (ss_one (s_ret e_bl)) ss_nil) (ss_cons (s_for (i_zp T.no_zip (a_cons (e_var (i := 2) rfl (Or.inl lk_are_measures_terms)) (a_cons (e_var (i := 1) rfl (Or.inl lk_are_measures_paper)) a_nil)) lk_are_measures_zip) (g_tp (gs_cons (g_tp (gs_cons (g_nm ⟨nd_are_measures, rfl, Or.inl lk_are_measures__, Or.inl rfl⟩) (gs_cons (g_nm ⟨nd_are_measures, rfl, Or.inl lk_are_measures_readings, Or.inl rfl⟩) gs_nil))) (gs_cons (g_nm ⟨nd_are_measures, rfl, Or.inr lk_are_measures_value, Or.inl rfl⟩) gs_nil))) (ss_one (s_if (t_not (t_tru (e_cb (fun _ A => c_all A) T.no_all rfl (a_cons (e_lc (own := [("reading", 7)]) nd_are_measures (by dsimp only; decide +kernel) rfl rfl (i_val (e_var (i := 5) rfl (Or.inl lk_are_measures_readings))) (fun _ => (g_nm ⟨nd_are_measures, rfl, (by first | exact Or.inl rfl | exact Or.inr rfl), (by first | exact Or.inl rfl | exact Or.inr rfl)⟩)) (fun _ => ts_no) (fun _ => (e_call ⟨h_lies_in.ex⟩ (a_cons (e_var (i := 3) rfl ) (a_cons (e_var (i := 7) rfl ) a_nil)) ))) a_nil) lk_are_measures_all))) (ss_one (s_ret e_bl)) ss_nil))) (ss_one (s_ret (e_call h_lies_in (a_cons (e_call h_total (a_cons (e_call h_with_signs (a_cons (e_var (i := 2) rfl (Or.inl lk_are_measures_terms)) (a_cons (e_var (i := 1) rfl (Or.inl lk_are_measures_paper)) a_nil)) lk_are_measures_with_signs) a_nil) lk_are_measures_total) (a_cons (e_ix (e_var (i := 0) rfl (Or.inl lk_are_measures_subject)) e_int) a_nil)) lk_are_measures_lies_in))))))
theorem sc_upholds_strike : FnScope ["subject", "answer"] ["subject", "answer"] (defScope st_upholds_strike) := ⟨rfl, rfl, rfl, by decide +kernel, rfl, by decide +kernel, by decide +kernel⟩
theorem nd_upholds_strike : (["subject", "answer"] : List Str).Nodup := sc_upholds_strike.nd
theorem kd_upholds_strike : (defScope st_upholds_strike).kind = .function := rfl
theorem lk_upholds_strike_answer : (defScope st_upholds_strike).names.lookup ("answer" : Str) = some .local := by decide +kernel
theorem lk_upholds_strike_are_measures : (defScope st_upholds_strike).names.lookup ("are_measures" : Str) = some .globalImplicit := by decide +kernel
theorem lk_upholds_strike_check_strike : (defScope st_upholds_strike).names.lookup ("check_strike" : Str) = some .globalImplicit := by decide +kernel
theorem lk_upholds_strike_is_answer : (defScope st_upholds_strike).names.lookup ("is_answer" : Str) = some .globalImplicit := by decide +kernel
theorem lk_upholds_strike_is_unsound : (defScope st_upholds_strike).names.lookup ("is_unsound" : Str) = some .globalImplicit := by decide +kernel
theorem lk_upholds_strike_subject : (defScope st_upholds_strike).names.lookup ("subject" : Str) = some .local := by decide +kernel
theorem cal_upholds_strike (T : Txt K mg) : Cal0 P w K mg base 10 "upholds_strike" 2 m_upholds_strike := by
  refine Cal0.of (k := 9) (m := 0) (f := b_upholds_strike) T.fn_upholds_strike sc_upholds_strike rfl rfl fun H0 => ?_
  have h_check_strike : Cal ⟨P, w, K, mg, base, ["subject", "answer"], defScope st_upholds_strike, fun _ => true, 9, H0, []⟩ "check_strike" 1 m_check_strike := (cal_check_strike T).cal (by decide)
  have h_is_unsound : Cal ⟨P, w, K, mg, base, ["subject", "answer"], defScope st_upholds_strike, fun _ => true, 9, H0, []⟩ "is_unsound" 2 m_is_unsound := (cal_is_unsound T).cal (by decide)
  have h_is_answer : Cal ⟨P, w, K, mg, base, ["subject", "answer"], defScope st_upholds_strike, fun _ => true, 9, H0, []⟩ "is_answer" 1 m_is_answer := (cal_is_answer T).cal (by decide)
  have h_are_measures : Cal ⟨P, w, K, mg, base, ["subject", "answer"], defScope st_upholds_strike, fun _ => true, 9, H0, []⟩ "are_measures" 2 m_are_measures := (cal_are_measures T).cal (by decide)
  exact (ss_cons (s_ex (e_call h_check_strike (a_cons (e_var (i := 0) rfl (Or.inl lk_upholds_strike_subject)) a_nil) lk_upholds_strike_check_strike)) (ss_cons (s_if (t_not (t_tru (e_call h_is_answer (a_cons (e_var (i := 1) rfl (Or.inl lk_upholds_strike_answer)) a_nil) lk_upholds_strike_is_answer))) (ss_one (s_ret e_bl)) ss_nil) (ss_cons (s_if (t_cmp (fun _ A => o_eq A) (e_ix (e_var (i := 1) rfl (Or.inl lk_upholds_strike_answer)) e_int) e_str) (ss_one (s_ret (e_call h_are_measures (a_cons (e_var (i := 0) rfl (Or.inl lk_upholds_strike_subject)) (a_cons (e_ix (e_var (i := 1) rfl (Or.inl lk_upholds_strike_answer)) e_int) a_nil)) lk_upholds_strike_are_measures))) ss_nil) (ss_one (s_ret (e_call h_is_unsound (a_cons (e_var (i := 0) rfl (Or.inl lk_upholds_strike_subject)) (a_cons (e_ix (e_var (i := 1) rfl (Or.inl lk_upholds_strike_answer)) e_int) a_nil)) lk_upholds_strike_is_unsound))))))
theorem sc__law_is_whole : FnScope ["value"] ["value"] (defScope st__law_is_whole) := ⟨rfl, rfl, rfl, by decide +kernel, rfl, by decide +kernel, by decide +kernel⟩
theorem nd__law_is_whole : (["value"] : List Str).Nodup := sc__law_is_whole.nd
theorem kd__law_is_whole : (defScope st__law_is_whole).kind = .function := rfl
theorem lk__law_is_whole_bool : (defScope st__law_is_whole).names.lookup ("bool" : Str) = some .globalImplicit := by decide +kernel
theorem lk__law_is_whole_int : (defScope st__law_is_whole).names.lookup ("int" : Str) = some .globalImplicit := by decide +kernel
theorem lk__law_is_whole_isinstance : (defScope st__law_is_whole).names.lookup ("isinstance" : Str) = some .globalImplicit := by decide +kernel
theorem lk__law_is_whole_value : (defScope st__law_is_whole).names.lookup ("value" : Str) = some .local := by decide +kernel
theorem cal__law_is_whole (T : Txt K mg) : Cal0 P w K mg base 1 "_law_is_whole" 1 m__law_is_whole := by
  refine Cal0.of (k := 0) (m := 0) (f := b__law_is_whole) T.fn__law_is_whole sc__law_is_whole rfl rfl fun H0 => ?_
  exact (ss_one (s_ret (e_and (e_isi .int rfl T.no_isinstance T.no_int (e_var (i := 0) rfl (Or.inl lk__law_is_whole_value)) lk__law_is_whole_isinstance lk__law_is_whole_int) (e_one (e_not (e_isi .bool rfl T.no_isinstance T.no_bool (e_var (i := 0) rfl (Or.inl lk__law_is_whole_value)) lk__law_is_whole_isinstance lk__law_is_whole_bool))))))
theorem sc__law_parts : FnScope ["value", "unit", "parts"] ["value", "unit"] (defScope st__law_parts) := ⟨rfl, rfl, rfl, by decide +kernel, rfl, by decide +kernel, by decide +kernel⟩
theorem nd__law_parts : (["value", "unit", "parts"] : List Str).Nodup := sc__law_parts.nd
theorem kd__law_parts : (defScope st__law_parts).kind = .function := rfl
theorem lk__law_parts__law_is_whole : (defScope st__law_parts).names.lookup ("_law_is_whole" : Str) = some .globalImplicit := by decide +kernel
theorem lk__law_parts__law_ratio : (defScope st__law_parts).names.lookup ("_law_ratio" : Str) = some .globalImplicit := by decide +kernel
theorem lk__law_parts_int : (defScope st__law_parts).names.lookup ("int" : Str) = some .globalImplicit := by decide +kernel
theorem lk__law_parts_isinstance : (defScope st__law_parts).names.lookup ("isinstance" : Str) = some .globalImplicit := by decide +kernel
theorem lk__law_parts_len : (defScope st__law_parts).names.lookup ("len" : Str) = some .globalImplicit := by decide +kernel
theorem lk__law_parts_parts : (defScope st__law_parts).names.lookup ("parts" : Str) = some .local := by decide +kernel
theorem lk__law_parts_tuple : (defScope st__law_parts).names.lookup ("tuple" : Str) = some .globalImplicit := by decide +kernel
theorem lk__law_parts_unit : (defScope st__law_parts).names.lookup ("unit" : Str) = some .local := by decide +kernel
theorem lk__law_parts_value : (defScope st__law_parts).names.lookup ("value" : Str) = some .local := by decide +kernel
theorem cal__law_parts (T : Txt K mg) : Cal0 P w K mg base 2 "_law_parts" 2 m__law_parts := by
  refine Cal0.of (k := 1) (m := 1) (f := b__law_parts) T.fn__law_parts sc__law_parts rfl rfl fun H0 => ?_
  have h__law_ratio : Cal ⟨P, w, K, mg, base, ["value", "unit", "parts"], defScope st__law_parts, fun _ => true, 1, H0, []⟩ "_law_ratio" 2 m__law_ratio := (cal__law_ratio T).cal (by decide)
  have h__law_is_whole : Cal ⟨P, w, K, mg, base, ["value", "unit", "parts"], defScope st__law_parts, fun _ => true, 1, H0, []⟩ "_law_is_whole" 1 m__law_is_whole := (cal__law_is_whole T).cal (by decide)
  exact (ss_cons (s_if (t_w (w_or (t_not (t_isi .tuple rfl T.no_isinstance T.no_tuple (e_var (i := 0) rfl (Or.inl lk__law_parts_value)) lk__law_parts_isinstance lk__law_parts_tuple)) (w_or (t_cmp (fun _ A => o_ne A) (e_cb (fun _ A => c_len1 A) T.no_len rfl (a_cons (e_var (i := 0) rfl (Or.inl lk__law_parts_value)) a_nil) lk__law_parts_len) e_int) (w_or (t_not (t_tru (e_call h__law_is_whole (a_cons (e_ix (e_var (i := 0) rfl (Or.inl lk__law_parts_value)) e_int) a_nil) lk__law_parts__law_is_whole))) (w_or1 (t_not (t_tru (e_call h__law_is_whole (a_cons (e_ix (e_var (i := 0) rfl (Or.inl lk__law_parts_value)) e_int) a_nil) lk__law_parts__law_is_whole)))))))) (ss_one (s_ret e_non)) ss_nil) (ss_cons (s_if (t_w (w_or (t_cmp (fun _ A => o_lt A) (e_ix (e_var (i := 0) rfl (Or.inl lk__law_parts_value)) e_int) e_int) (w_or1 (t_cmp (fun _ A => o_ne A) (e_bin (fun _ A => o_mod A) (e_cty (fun _ A => c_int A) T.no_int rfl (a_cons (e_bin (fun _ A => o_mul A) (e_var (i := 1) rfl (Or.inl lk__law_parts_unit)) e_int) a_nil) lk__law_parts_int) (e_ix (e_var (i := 0) rfl (Or.inl lk__law_parts_value)) e_int)) e_int)))) (ss_one (s_ret e_non)) ss_nil) (ss_cons (s_set ⟨nd__law_parts, rfl, Or.inl lk__law_parts_parts, Or.inl rfl⟩ (e_bin (fun _ A => o_mul A) (e_ix (e_var (i := 0) rfl (Or.inl lk__law_parts_value)) e_int) (e_bin (fun _ A => o_div A) (e_bin (fun _ A => o_mul A) (e_var (i := 1) rfl (Or.inl lk__law_parts_unit)) e_int) (e_ix (e_var (i := 0) rfl (Or.inl lk__law_parts_value)) e_int)))) (ss_cons (s_if (t_cmp (fun _ A => o_ne A) (e_call h__law_ratio (a_cons (e_var (i := 2) rfl (Or.inl lk__law_parts_parts)) (a_cons (e_bin (fun _ A => o_mul A) (e_var (i := 1) rfl (Or.inl lk__law_parts_unit)) e_int) a_nil)) lk__law_parts__law_ratio) (e_var (i := 0) rfl (Or.inl lk__law_parts_value))) (ss_one (s_ret e_non)) ss_nil) (ss_one (s_ret (e_var (i := 2) rfl (Or.inl lk__law_parts_parts))))))))
theorem sc__law_yes : FnScope ["terms", "total_v", "unit", "paper", "added", "t", "parts", "bounds"] ["terms", "total_v", "unit", "paper"] (defScope st__law_yes) := ⟨rfl, rfl, rfl, by decide +kernel, rfl, by decide +kernel, by decide +kernel⟩
theorem nd__law_yes : (["terms", "total_v", "unit", "paper", "added", "t", "parts", "bounds"] : List Str).Nodup := sc__law_yes.nd
theorem kd__law_yes : (defScope st__law_yes).kind = .function := rfl
theorem lk__law_yes__law_meet : (defScope st__law_yes).names.lookup ("_law_meet" : Str) = some .globalImplicit := by decide +kernel
theorem lk__law_yes__law_parts : (defScope st__law_yes).names.lookup ("_law_parts" : Str) = some .globalImplicit := by decide +kernel
theorem lk__law_yes_added : (defScope st__law_yes).names.lookup ("added" : Str) = some .local := by decide +kernel
theorem lk__law_yes_bounds : (defScope st__law_yes).names.lookup ("bounds" : Str) = some .local := by decide +kernel
theorem lk__law_yes_isinstance : (defScope st__law_yes).names.lookup ("isinstance" : Str) = some .globalImplicit := by decide +kernel
theorem lk__law_yes_len : (defScope st__law_yes).names.lookup ("len" : Str) = some .globalImplicit := by decide +kernel
theorem lk__law_yes_paper : (defScope st__law_yes).names.lookup ("paper" : Str) = some .local := by decide +kernel
theorem lk__law_yes_parts : (defScope st__law_yes).names.lookup ("parts" : Str) = some .local := by decide +kernel
theorem lk__law_yes_range : (defScope st__law_yes).names.lookup ("range" : Str) = some .globalImplicit := by decide +kernel
theorem lk__law_yes_t : (defScope st__law_yes).names.lookup ("t" : Str) = some .local := by decide +kernel
theorem lk__law_yes_terms : (defScope st__law_yes).names.lookup ("terms" : Str) = some .local := by decide +kernel
theorem lk__law_yes_total_v : (defScope st__law_yes).names.lookup ("total_v" : Str) = some .local := by decide +kernel
theorem lk__law_yes_tuple : (defScope st__law_yes).names.lookup ("tuple" : Str) = some .globalImplicit := by decide +kernel
theorem lk__law_yes_unit : (defScope st__law_yes).names.lookup ("unit" : Str) = some .local := by decide +kernel
theorem cal__law_yes (T : Txt K mg) : Cal0 P w K mg base 3 "_law_yes" 4 m__law_yes := by
  refine Cal0.of (k := 2) (m := 4) (f := b__law_yes) T.fn__law_yes sc__law_yes rfl rfl fun H0 => ?_
  have h__law_meet : Cal ⟨P, w, K, mg, base, ["terms", "total_v", "unit", "paper", "added", "t", "parts", "bounds"], defScope st__law_yes, fun _ => true, 2, H0, []⟩ "_law_meet" 1 m__law_meet := (cal__law_meet T).cal (by decide)
  have h__law_parts : Cal ⟨P, w, K, mg, base, ["terms", "total_v", "unit", "paper", "added", "t", "parts", "bounds"], defScope st__law_yes, fun _ => true, 2, H0, []⟩ "_law_parts" 2 m__law_parts := (cal__law_parts T).cal (by decide)
  exact (ss_cons (s_if (t_w (w_or (t_not (t_isi .tuple rfl T.no_isinstance T.no_tuple (e_var (i := 3) rfl (Or.inl lk__law_yes_paper)) lk__law_yes_isinstance lk__law_yes_tuple)) (w_or1 (t_cmp (fun _ A => o_ne A) (e_cb (fun _ A => c_len1 A) T.no_len rfl (a_cons (e_var (i := 3) rfl (Or.inl lk__law_yes_paper)) a_nil) lk__law_yes_len) (e_cb (fun _ A => c_len1 A) T.no_len rfl (a_cons (e_var (i := 0) rfl (Or.inl lk__law_yes_terms)) a_nil) lk__law_yes_len))))) (ss_one (s_ret e_bl)) ss_nil) (ss_cons (s_set ⟨nd__law_yes, rfl, Or.inl lk__law_yes_added, Or.inl rfl⟩ e_int) (ss_cons (s_for (i_rg1 T.no_range (a_cons (e_cb (fun _ A => c_len1 A) T.no_len rfl (a_cons (e_var (i := 0) rfl (Or.inl lk__law_yes_terms)) a_nil) lk__law_yes_len) a_nil) lk__law_yes_range) (g_nm ⟨nd__law_yes, rfl, Or.inl lk__law_yes_t, Or.inl rfl⟩) (ss_cons (s_set ⟨nd__law_yes, rfl, Or.inl lk__law_yes_parts, Or.inl rfl⟩ (e_call h__law_parts (a_cons (e_ix (e_var (i := 3) rfl (Or.inl lk__law_yes_paper)) (e_var (i := 5) rfl (Or.inl lk__law_yes_t))) (a_cons (e_var (i := 2) rfl (Or.inl lk__law_yes_unit)) a_nil)) lk__law_yes__law_parts)) (ss_cons (s_set ⟨nd__law_yes, rfl, Or.inl lk__law_yes_bounds, Or.inl rfl⟩ (e_call h__law_meet (a_cons (e_ix (e_ix (e_var (i := 0) rfl (Or.inl lk__law_yes_terms)) (e_var (i := 5) rfl (Or.inl lk__law_yes_t))) e_int) a_nil) lk__law_yes__law_meet)) (ss_cons (s_if (t_w (w_or (t_cmp (fun _ A => o_is A) (e_var (i := 6) rfl (Or.inl lk__law_yes_parts)) e_non) (w_or (t_cmp (fun _ A => o_lt A) (e_var (i := 6) rfl (Or.inl lk__law_yes_parts)) (e_bin (fun _ A => o_mul A) e_int (e_ix (e_var (i := 7) rfl (Or.inl lk__law_yes_bounds)) e_int))) (w_or1 (t_cmp (fun _ A => o_gt A) (e_var (i := 6) rfl (Or.inl lk__law_yes_parts)) (e_bin (fun _ A => o_mul A) e_int (e_ix (e_var (i := 7) rfl (Or.inl lk__law_yes_bounds)) e_int))))))) (ss_one (s_ret e_bl)) ss_nil) (ss_one (s_set ⟨nd__law_yes, rfl, Or.inl lk__law_yes_added, Or.inl rfl⟩ (e_bin (fun _ A => o_add A) (e_var (i := 4) rfl (Or.inl lk__law_yes_added)) (e_bin (fun _ A => o_mul A) (e_ix (e_ix (e_var (i := 0) rfl (Or.inl lk__law_yes_terms)) (e_var (i := 5) rfl (Or.inl lk__law_yes_t))) e_int) (e_var (i := 6) rfl (Or.inl lk__law_yes_parts)))))))))) (ss_one (s_ret (e_chain (fun _ A => o_le A) (fun _ A => o_le A) (e_bin (fun _ A => o_mul A) e_int (e_ix (e_var (i := 1) rfl (Or.inl lk__law_yes_total_v)) e_int)) (e_var (i := 4) rfl (Or.inl lk__law_yes_added)) (e_bin (fun _ A => o_mul A) e_int (e_ix (e_var (i := 1) rfl (Or.inl lk__law_yes_total_v)) e_int))))))))
theorem sc__law_names_apart : FnScope ["terms", "paper", "readings", "at", "part"] ["terms", "paper"] (defScope st__law_names_apart) := ⟨rfl, rfl, rfl, by decide +kernel, rfl, by decide +kernel, by decide +kernel⟩
theorem nd__law_names_apart : (["terms", "paper", "readings", "at", "part"] : List Str).Nodup := sc__law_names_apart.nd
theorem kd__law_names_apart : (defScope st__law_names_apart).kind = .function := rfl
theorem lk__law_names_apart_at : (defScope st__law_names_apart).names.lookup ("at" : Str) = some .local := by decide +kernel
theorem lk__law_names_apart_len : (defScope st__law_names_apart).names.lookup ("len" : Str) = some .globalImplicit := by decide +kernel
theorem lk__law_names_apart_paper : (defScope st__law_names_apart).names.lookup ("paper" : Str) = some .local := by decide +kernel
theorem lk__law_names_apart_readings : (defScope st__law_names_apart).names.lookup ("readings" : Str) = some .local := by decide +kernel
theorem lk__law_names_apart_terms : (defScope st__law_names_apart).names.lookup ("terms" : Str) = some .local := by decide +kernel
theorem cal__law_names_apart (T : Txt K mg) : Cal0 P w K mg base 2 "_law_names_apart" 2 m__law_names_apart := by
  refine Cal0.of (k := 1) (m := 3) (f := b__law_names_apart) T.fn__law_names_apart sc__law_names_apart rfl rfl fun H0 => ?_
  have h__law_is_whole : Cal ⟨P, w, K, mg, base, ["terms", "paper", "readings", "at", "part"], defScope st__law_names_apart, fun _ => true, 1, H0, []⟩ "_law_is_whole" 1 m__law_is_whole := (cal__law_is_whole T).cal (by decide)
  exact (ss_cons (s_if (t_w (w_or (t_cmp (fun _ A => o_ne A) (e_cb (fun _ A => c_len1 A) T.no_len rfl (a_cons (e_var (i := 1) rfl (Or.inl lk__law_names_apart_paper)) a_nil) lk__law_names_apart_len) e_int) (w_or1 (t_cmp (fun _ A => o_gt A) (e_cb (fun _ A => c_len1 A) T.no_len rfl (a_cons (e_lc (own := [("part", 4)]) nd__law_names_apart (by dsimp only; decide +kernel) rfl rfl (i_val (e_sl (e_var (i := 1) rfl (Or.inl lk__law_names_apart_paper)) (p_so e_int) p_no)) (fun _ => (g_nm ⟨nd__law_names_apart, rfl, (by first | exact Or.inl rfl | exact Or.inr rfl), (by first | exact Or.inl rfl | exact Or.inr rfl)⟩)) (fun _ => (ts_one (t_not (t_tru (e_call ⟨h__law_is_whole.ex⟩ (a_cons (e_var (i := 4) rfl ) a_nil) ))))) (fun _ => (e_var (i := 4) rfl ))) a_nil) lk__law_names_apart_len) e_int)))) (ss_one (s_ret e_bl)) ss_nil) (ss_cons (s_if (t_w (w_or (t_cmp (fun _ A => o_lt A) (e_ix (e_var (i := 1) rfl (Or.inl lk__law_names_apart_paper)) e_int) e_int) (w_or1 (t_cmp (fun _ A => o_ge A) (e_ix (e_var (i := 1) rfl (Or.inl lk__law_names_apart_paper)) e_int) (e_cb (fun _ A => c_len1 A) T.no_len rfl (a_cons (e_var (i := 0) rfl (Or.inl lk__law_names_apart_terms)) a_nil) lk__law_names_apart_len))))) (ss_one (s_ret e_bl)) ss_nil) (ss_cons (s_set ⟨nd__law_names_apart, rfl, Or.inl lk__law_names_apart_readings, Or.inl rfl⟩ (e_ix (e_ix (e_var (i := 0) rfl (Or.inl lk__law_names_apart_terms)) (e_ix (e_var (i := 1) rfl (Or.inl lk__law_names_apart_paper)) e_int)) e_int)) (ss_cons (s_for (i_val (e_sl (e_var (i := 1) rfl (Or.inl lk__law_names_apart_paper)) (p_so e_int) p_no)) (g_nm ⟨nd__law_names_apart, rfl, Or.inl lk__law_names_apart_at, Or.inl rfl⟩) (ss_one (s_if (t_w (w_or (t_cmp (fun _ A => o_lt A) (e_var (i := 3) rfl (Or.inl lk__law_names_apart_at)) e_int) (w_or1 (t_cmp (fun _ A => o_ge A) (e_var (i := 3) rfl (Or.inl lk__law_names_apart_at)) (e_cb (fun _ A => c_len1 A) T.no_len rfl (a_cons (e_var (i := 2) rfl (Or.inl lk__law_names_apart_readings)) a_nil) lk__law_names_apart_len))))) (ss_one (s_ret e_bl)) ss_nil))) (ss_one (s_ret (e_and (e_cmp (fun _ A => o_ne A) (e_ix (e_var (i := 1) rfl (Or.inl lk__law_names_apart_paper)) e_int) (e_ix (e_var (i := 1) rfl (Or.inl lk__law_names_apart_paper)) e_int)) (e_one (e_cmp (fun _ A => o_lt A) (e_ix (e_ix (e_var (i := 2) rfl (Or.inl lk__law_names_apart_readings)) (e_ix (e_var (i := 1) rfl (Or.inl lk__law_names_apart_paper)) e_int)) e_int) (e_ix (e_ix (e_var (i := 2) rfl (Or.inl lk__law_names_apart_readings)) (e_ix (e_var (i := 1) rfl (Or.inl lk__law_names_apart_paper)) e_int)) e_int))))))))))
theorem sc__law_no : FnScope ["terms", "total_v", "unit", "paper", "parts", "ends"] ["terms", "total_v", "unit", "paper"] (defScope st__law_no) := ⟨rfl, rfl, rfl, by decide +kernel, rfl, by decide +kernel, by decide +kernel⟩
theorem nd__law_no : (["terms", "total_v", "unit", "paper", "parts", "ends"] : List Str).Nodup := sc__law_no.nd
theorem kd__law_no : (defScope st__law_no).kind = .function := rfl
theorem lk__law_no__law_apart : (defScope st__law_no).names.lookup ("_law_apart" : Str) = some .globalImplicit := by decide +kernel
theorem lk__law_no__law_ends : (defScope st__law_no).names.lookup ("_law_ends" : Str) = some .globalImplicit := by decide +kernel
theorem lk__law_no__law_names_apart : (defScope st__law_no).names.lookup ("_law_names_apart" : Str) = some .globalImplicit := by decide +kernel
theorem lk__law_no__law_parts : (defScope st__law_no).names.lookup ("_law_parts" : Str) = some .globalImplicit := by decide +kernel
theorem lk__law_no_ends : (defScope st__law_no).names.lookup ("ends" : Str) = some .local := by decide +kernel
theorem lk__law_no_isinstance : (defScope st__law_no).names.lookup ("isinstance" : Str) = some .globalImplicit := by decide +kernel
theorem lk__law_no_len : (defScope st__law_no).names.lookup ("len" : Str) = some .globalImplicit := by decide +kernel
theorem lk__law_no_paper : (defScope st__law_no).names.lookup ("paper" : Str) = some .local := by decide +kernel
theorem lk__law_no_parts : (defScope st__law_no).names.lookup ("parts" : Str) = some .local := by decide +kernel
theorem lk__law_no_str : (defScope st__law_no).names.lookup ("str" : Str) = some .globalImplicit := by decide +kernel
theorem lk__law_no_terms : (defScope st__law_no).names.lookup ("terms" : Str) = some .local := by decide +kernel
theorem lk__law_no_total_v : (defScope st__law_no).names.lookup ("total_v" : Str) = some .local := by decide +kernel
theorem lk__law_no_tuple : (defScope st__law_no).names.lookup ("tuple" : Str) = some .globalImplicit := by decide +kernel
theorem lk__law_no_unit : (defScope st__law_no).names.lookup ("unit" : Str) = some .local := by decide +kernel
theorem cal__law_no (T : Txt K mg) : Cal0 P w K mg base 3 "_law_no" 4 m__law_no := by
  refine Cal0.of (k := 2) (m := 2) (f := b__law_no) T.fn__law_no sc__law_no rfl rfl fun H0 => ?_
  have h__law_ends : Cal ⟨P, w, K, mg, base, ["terms", "total_v", "unit", "paper", "parts", "ends"], defScope st__law_no, fun _ => true, 2, H0, []⟩ "_law_ends" 1 m__law_ends := (cal__law_ends T).cal (by decide)
  have h__law_apart : Cal ⟨P, w, K, mg, base, ["terms", "total_v", "unit", "paper", "parts", "ends"], defScope st__law_no, fun _ => true, 2, H0, []⟩ "_law_apart" 1 m__law_apart := (cal__law_apart T).cal (by decide)
  have h__law_parts : Cal ⟨P, w, K, mg, base, ["terms", "total_v", "unit", "paper", "parts", "ends"], defScope st__law_no, fun _ => true, 2, H0, []⟩ "_law_parts" 2 m__law_parts := (cal__law_parts T).cal (by decide)
  have h__law_names_apart : Cal ⟨P, w, K, mg, base, ["terms", "total_v", "unit", "paper", "parts", "ends"], defScope st__law_no, fun _ => true, 2, H0, []⟩ "_law_names_apart" 2 m__law_names_apart := (cal__law_names_apart T).cal (by decide)
  exact (ss_cons (s_if (t_w (w_or (t_not (t_isi .tuple rfl T.no_isinstance T.no_tuple (e_var (i := 3) rfl (Or.inl lk__law_no_paper)) lk__law_no_isinstance lk__law_no_tuple)) (w_or (t_cmp (fun _ A => o_lt A) (e_cb (fun _ A => c_len1 A) T.no_len rfl (a_cons (e_var (i := 3) rfl (Or.inl lk__law_no_paper)) a_nil) lk__law_no_len) e_int) (w_or1 (t_not (t_isi .str rfl T.no_isinstance T.no_str (e_ix (e_var (i := 3) rfl (Or.inl lk__law_no_paper)) e_int) lk__law_no_isinstance lk__law_no_str)))))) (ss_one (s_ret e_bl)) ss_nil) (ss_cons (s_if (t_cmp (fun _ A => o_eq A) (e_ix (e_var (i := 3) rfl (Or.inl lk__law_no_paper)) e_int) e_str) (ss_one (s_ret (e_call h__law_names_apart (a_cons (e_var (i := 0) rfl (Or.inl lk__law_no_terms)) (a_cons (e_var (i := 3) rfl (Or.inl lk__law_no_paper)) a_nil)) lk__law_no__law_names_apart))) ss_nil) (ss_cons (s_if (t_w (w_or (t_cmp (fun _ A => o_ne A) (e_cb (fun _ A => c_len1 A) T.no_len rfl (a_cons (e_var (i := 3) rfl (Or.inl lk__law_no_paper)) a_nil) lk__law_no_len) e_int) (w_or1 (t_cmp (fun _ A => o_isnot A) (e_call h__law_apart (a_cons (e_var (i := 0) rfl (Or.inl lk__law_no_terms)) a_nil) lk__law_no__law_apart) e_non)))) (ss_one (s_ret e_bl)) ss_nil) (ss_cons (s_set ⟨nd__law_no, rfl, Or.inl lk__law_no_parts, Or.inl rfl⟩ (e_call h__law_parts (a_cons (e_ix (e_var (i := 3) rfl (Or.inl lk__law_no_paper)) e_int) (a_cons (e_var (i := 2) rfl (Or.inl lk__law_no_unit)) a_nil)) lk__law_no__law_parts)) (ss_cons (s_set ⟨nd__law_no, rfl, Or.inl lk__law_no_ends, Or.inl rfl⟩ (e_call h__law_ends (a_cons (e_var (i := 0) rfl (Or.inl lk__law_no_terms)) a_nil) lk__law_no__law_ends)) (ss_cons (s_if (t_w (w_or (t_cmp (fun _ A => o_is A) (e_var (i := 4) rfl (Or.inl lk__law_no_parts)) e_non) (w_or1 (t_cmp (fun _ A => o_le A) (e_var (i := 4) rfl (Or.inl lk__law_no_parts)) e_int)))) (ss_one (s_ret e_bl)) ss_nil) (ss_cons (s_if (t_cmp (fun _ A => o_eq A) (e_ix (e_var (i := 3) rfl (Or.inl lk__law_no_paper)) e_int) e_str) (ss_one (s_ret (e_cmp (fun _ A => o_eq A) (e_var (i := 4) rfl (Or.inl lk__law_no_parts)) (e_bin (fun _ A => o_mul A) e_int (e_bin (fun _ A => o_sub A) (e_ix (e_var (i := 5) rfl (Or.inl lk__law_no_ends)) e_int) (e_ix (e_var (i := 1) rfl (Or.inl lk__law_no_total_v)) e_int)))))) ss_nil) (ss_one (s_ret (e_and (e_cmp (fun _ A => o_eq A) (e_ix (e_var (i := 3) rfl (Or.inl lk__law_no_paper)) e_int) e_str) (e_one (e_cmp (fun _ A => o_eq A) (e_var (i := 4) rfl (Or.inl lk__law_no_parts)) (e_bin (fun _ A => o_mul A) e_int (e_bin (fun _ A => o_sub A) (e_ix (e_var (i := 1) rfl (Or.inl lk__law_no_total_v)) e_int) (e_ix (e_var (i := 5) rfl (Or.inl lk__law_no_ends)) e_int)))))))))))))))
theorem sc__law_right : FnScope ["terms", "total_v", "unit", "answer"] ["terms", "total_v", "unit", "answer"] (defScope st__law_right) := ⟨rfl, rfl, rfl, by decide +kernel, rfl, by decide +kernel, by decide +kernel⟩
theorem nd__law_right : (["terms", "total_v", "unit", "answer"] : List Str).Nodup := sc__law_right.nd
theorem kd__law_right : (defScope st__law_right).kind = .function := rfl
theorem lk__law_right__law_no : (defScope st__law_right).names.lookup ("_law_no" : Str) = some .globalImplicit := by decide +kernel
theorem lk__law_right__law_yes : (defScope st__law_right).names.lookup ("_law_yes" : Str) = some .globalImplicit := by decide +kernel
theorem lk__law_right_answer : (defScope st__law_right).names.lookup ("answer" : Str) = some .local := by decide +kernel
theorem lk__law_right_isinstance : (defScope st__law_right).names.lookup ("isinstance" : Str) = some .globalImplicit := by decide +kernel
theorem lk__law_right_len : (defScope st__law_right).names.lookup ("len" : Str) = some .globalImplicit := by decide +kernel
theorem lk__law_right_str : (defScope st__law_right).names.lookup ("str" : Str) = some .globalImplicit := by decide +kernel
theorem lk__law_right_terms : (defScope st__law_right).names.lookup ("terms" : Str) = some .local := by decide +kernel
theorem lk__law_right_total_v : (defScope st__law_right).names.lookup ("total_v" : Str) = some .local := by decide +kernel
theorem lk__law_right_tuple : (defScope st__law_right).names.lookup ("tuple" : Str) = some .globalImplicit := by decide +kernel
theorem lk__law_right_unit : (defScope st__law_right).names.lookup ("unit" : Str) = some .local := by decide +kernel
theorem cal__law_right (T : Txt K mg) : Cal0 P w K mg base 4 "_law_right" 4 m__law_right := by
  refine Cal0.of (k := 3) (m := 0) (f := b__law_right) T.fn__law_right sc__law_right rfl rfl fun H0 => ?_
  have h__law_yes : Cal ⟨P, w, K, mg, base, ["terms", "total_v", "unit", "answer"], defScope st__law_right, fun _ => true, 3, H0, []⟩ "_law_yes" 4 m__law_yes := (cal__law_yes T).cal (by decide)
  have h__law_no : Cal ⟨P, w, K, mg, base, ["terms", "total_v", "unit", "answer"], defScope st__law_right, fun _ => true, 3, H0, []⟩ "_law_no" 4 m__law_no := (cal__law_no T).cal (by decide)
  exact (ss_cons (s_if (t_w (w_or (t_not (t_isi .tuple rfl T.no_isinstance T.no_tuple (e_var (i := 3) rfl (Or.inl lk__law_right_answer)) lk__law_right_isinstance lk__law_right_tuple)) (w_or (t_cmp (fun _ A => o_ne A) (e_cb (fun _ A => c_len1 A) T.no_len rfl (a_cons (e_var (i := 3) rfl (Or.inl lk__law_right_answer)) a_nil) lk__law_right_len) e_int) (w_or1 (t_not (t_isi .str rfl T.no_isinstance T.no_str (e_ix (e_var (i := 3) rfl (Or.inl lk__law_right_answer)) e_int) lk__law_right_isinstance lk__law_right_str)))))) (ss_one (s_ret e_bl)) ss_nil) (ss_cons (s_if (t_cmp (fun _ A => o_eq A) (e_ix (e_var (i := 3) rfl (Or.inl lk__law_right_answer)) e_int) e_str) (ss_one (s_ret (e_call h__law_yes (a_cons (e_var (i := 0) rfl (Or.inl lk__law_right_terms)) (a_cons (e_var (i := 1) rfl (Or.inl lk__law_right_total_v)) (a_cons (e_var (i := 2) rfl (Or.inl lk__law_right_unit)) (a_cons (e_ix (e_var (i := 3) rfl (Or.inl lk__law_right_answer)) e_int) a_nil)))) lk__law_right__law_yes))) ss_nil) (ss_one (s_ret (e_and (e_cmp (fun _ A => o_eq A) (e_ix (e_var (i := 3) rfl (Or.inl lk__law_right_answer)) e_int) e_str) (e_one (e_call h__law_no (a_cons (e_var (i := 0) rfl (Or.inl lk__law_right_terms)) (a_cons (e_var (i := 1) rfl (Or.inl lk__law_right_total_v)) (a_cons (e_var (i := 2) rfl (Or.inl lk__law_right_unit)) (a_cons (e_ix (e_var (i := 3) rfl (Or.inl lk__law_right_answer)) e_int) a_nil)))) lk__law_right__law_no)))))))
theorem sc_first_apart : FnScope ["terms", "index", "_", "readings", "highs", "lows", "high", "low"] ["terms"] (defScope st_first_apart) := ⟨rfl, rfl, rfl, by decide +kernel, rfl, by decide +kernel, by decide +kernel⟩
theorem nd_first_apart : (["terms", "index", "_", "readings", "highs", "lows", "high", "low"] : List Str).Nodup := sc_first_apart.nd
theorem kd_first_apart : (defScope st_first_apart).kind = .function := rfl
theorem lk_first_apart__ : (defScope st_first_apart).names.lookup ("_" : Str) = some .local := by decide +kernel
theorem lk_first_apart_are_apart : (defScope st_first_apart).names.lookup ("are_apart" : Str) = some .globalImplicit := by decide +kernel
theorem lk_first_apart_enumerate : (defScope st_first_apart).names.lookup ("enumerate" : Str) = some .globalImplicit := by decide +kernel
theorem lk_first_apart_greatest_low : (defScope st_first_apart).names.lookup ("greatest_low" : Str) = some .globalImplicit := by decide +kernel
theorem lk_first_apart_highs : (defScope st_first_apart).names.lookup ("highs" : Str) = some .local := by decide +kernel
theorem lk_first_apart_index : (defScope st_first_apart).names.lookup ("index" : Str) = some .local := by decide +kernel
theorem lk_first_apart_least_high : (defScope st_first_apart).names.lookup ("least_high" : Str) = some .globalImplicit := by decide +kernel
theorem lk_first_apart_lows : (defScope st_first_apart).names.lookup ("lows" : Str) = some .local := by decide +kernel
theorem lk_first_apart_readings : (defScope st_first_apart).names.lookup ("readings" : Str) = some .local := by decide +kernel
theorem lk_first_apart_terms : (defScope st_first_apart).names.lookup ("terms" : Str) = some .local := by decide +kernel
theorem cal_first_apart (T : Txt K mg) : Cal0 P w K mg base 8 "first_apart" 1 m_first_apart := by
  refine Cal0.of (k := 7) (m := 7) (f := b_first_apart) T.fn_first_apart sc_first_apart rfl rfl fun H0 => ?_
  have h_greatest_low : Cal ⟨P, w, K, mg, base, ["terms", "index", "_", "readings", "highs", "lows", "high", "low"], defScope st_first_apart, fun _ => true, 7, H0, []⟩ "greatest_low" 1 m_greatest_low := (cal_greatest_low T).cal (by decide)
  have h_least_high : Cal ⟨P, w, K, mg, base, ["terms", "index", "_", "readings", "highs", "lows", "high", "low"], defScope st_first_apart, fun _ => true, 7, H0, []⟩ "least_high" 1 m_least_high := (cal_least_high T).cal (by decide)
  have h_are_apart : Cal ⟨P, w, K, mg, base, ["terms", "index", "_", "readings", "highs", "lows", "high", "low"], defScope st_first_apart, fun _ => true, 7, H0, []⟩ "are_apart" 1 m_are_apart := (cal_are_apart T).cal (by decide)
  exact (ss_cons (s_for (i_en T.no_enumerate (e_var (i := 0) rfl (Or.inl lk_first_apart_terms)) lk_first_apart_enumerate) (g_tp (gs_cons (g_nm ⟨nd_first_apart, rfl, Or.inl lk_first_apart_index, Or.inl rfl⟩) (gs_cons (g_tp (gs_cons (g_nm ⟨nd_first_apart, rfl, Or.inl lk_first_apart__, Or.inl rfl⟩) (gs_cons (g_nm ⟨nd_first_apart, rfl, Or.inl lk_first_apart_readings, Or.inl rfl⟩) gs_nil))) gs_nil))) (ss_one (s_if (t_tru (e_call h_are_apart (a_cons (e_var (i := 3) rfl (Or.inl lk_first_apart_readings)) a_nil) lk_first_apart_are_apart)) (ss_cons (s_lc (own := [("_", 2), ("high", 6)]) ⟨nd_first_apart, rfl, Or.inl lk_first_apart_highs, Or.inl rfl⟩ lk_first_apart_highs rfl (by decide +kernel) kd_first_apart (by dsimp only; decide +kernel) rfl rfl (i_val (e_var (i := 3) rfl (Or.inl lk_first_apart_readings))) (fun _ => (g_tp (gs_cons (g_nm ⟨nd_first_apart, rfl, (by first | exact Or.inl rfl | exact Or.inr rfl), (by first | exact Or.inl rfl | exact Or.inr rfl)⟩) (gs_cons (g_nm ⟨nd_first_apart, rfl, (by first | exact Or.inl rfl | exact Or.inr rfl), (by first | exact Or.inl rfl | exact Or.inr rfl)⟩) gs_nil)))) (fun _ => ts_no) (fun _ => (e_var (i := 6) rfl ))) (ss_cons (s_lc (own := [("low", 7), ("_", 2)]) ⟨nd_first_apart, rfl, Or.inl lk_first_apart_lows, Or.inl rfl⟩ lk_first_apart_lows rfl (by decide +kernel) kd_first_apart (by dsimp only; decide +kernel) rfl rfl (i_val (e_var (i := 3) rfl (Or.inl lk_first_apart_readings))) (fun _ => (g_tp (gs_cons (g_nm ⟨nd_first_apart, rfl, (by first | exact Or.inl rfl | exact Or.inr rfl), (by first | exact Or.inl rfl | exact Or.inr rfl)⟩) (gs_cons (g_nm ⟨nd_first_apart, rfl, (by first | exact Or.inl rfl | exact Or.inr rfl), (by first | exact Or.inl rfl | exact Or.inr rfl)⟩) gs_nil)))) (fun _ => ts_no) (fun _ => (e_var (i := 7) rfl ))) (ss_one (s_ret (e_tup (a_cons e_str (a_cons (e_var (i := 1) rfl (Or.inl lk_first_apart_index)) (a_cons (e_ml (i := 4) PySem.F.slot_list_index PySem.F.type_list_index (fun _ A => m_index' A) (a_cons (e_call h_least_high (a_cons (e_var (i := 3) rfl (Or.inl lk_first_apart_readings)) a_nil) lk_first_apart_least_high) a_nil) rfl (Or.inl lk_first_apart_highs)) (a_cons (e_ml (i := 5) PySem.F.slot_list_index PySem.F.type_list_index (fun _ A => m_index' A) (a_cons (e_call h_greatest_low (a_cons (e_var (i := 3) rfl (Or.inl lk_first_apart_readings)) a_nil) lk_first_apart_greatest_low) a_nil) rfl (Or.inl lk_first_apart_lows)) a_nil))))))))) ss_nil))) (ss_one (s_ret e_non)))
theorem sc_raised_values : FnScope ["bounds", "wanted", "lack", "values", "low", "high", "raising"] ["bounds", "wanted"] (defScope st_raised_values) := ⟨rfl, rfl, rfl, by decide +kernel, rfl, by decide +kernel, by decide +kernel⟩
theorem nd_raised_values : (["bounds", "wanted", "lack", "values", "low", "high", "raising"] : List Str).Nodup := sc_raised_values.nd
theorem kd_raised_values : (defScope st_raised_values).kind = .function := rfl
theorem lk_raised_values_bounds : (defScope st_raised_values).names.lookup ("bounds" : Str) = some .local := by decide +kernel
theorem lk_raised_values_high : (defScope st_raised_values).names.lookup ("high" : Str) = some .local := by decide +kernel
theorem lk_raised_values_lack : (defScope st_raised_values).names.lookup ("lack" : Str) = some .local := by decide +kernel
theorem lk_raised_values_larger : (defScope st_raised_values).names.lookup ("larger" : Str) = some .globalImplicit := by decide +kernel
theorem lk_raised_values_lesser : (defScope st_raised_values).names.lookup ("lesser" : Str) = some .globalImplicit := by decide +kernel
theorem lk_raised_values_low : (defScope st_raised_values).names.lookup ("low" : Str) = some .local := by decide +kernel
theorem lk_raised_values_minus : (defScope st_raised_values).names.lookup ("minus" : Str) = some .globalImplicit := by decide +kernel
theorem lk_raised_values_plus : (defScope st_raised_values).names.lookup ("plus" : Str) = some .globalImplicit := by decide +kernel
theorem lk_raised_values_raising : (defScope st_raised_values).names.lookup ("raising" : Str) = some .local := by decide +kernel
theorem lk_raised_values_sums : (defScope st_raised_values).names.lookup ("sums" : Str) = some .globalImplicit := by decide +kernel
theorem lk_raised_values_tuple : (defScope st_raised_values).names.lookup ("tuple" : Str) = some .globalImplicit := by decide +kernel
theorem lk_raised_values_values : (defScope st_raised_values).names.lookup ("values" : Str) = some .local := by decide +kernel
theorem lk_raised_values_wanted : (defScope st_raised_values).names.lookup ("wanted" : Str) = some .local := by decide +kernel
theorem cal_raised_values (T : Txt K mg) : Cal0 P w K mg base 7 "raised_values" 2 m_raised_values := by
  refine Cal0.of (k := 6) (m := 5) (f := b_raised_values) T.fn_raised_values sc_raised_values rfl rfl fun H0 => ?_
  have h_plus : Cal ⟨P, w, K, mg, base, ["bounds", "wanted", "lack", "values", "low", "high", "raising"], defScope st_raised_values, fun _ => true, 6, H0, []⟩ "plus" 2 m_plus := (cal_plus T).cal (by decide)
  have h_sums : Cal ⟨P, w, K, mg, base, ["bounds", "wanted", "lack", "values", "low", "high", "raising"], defScope st_raised_values, fun _ => true, 6, H0, []⟩ "sums" 1 m_sums := (cal_sums T).cal (by decide)
  have h_larger : Cal ⟨P, w, K, mg, base, ["bounds", "wanted", "lack", "values", "low", "high", "raising"], defScope st_raised_values, fun _ => true, 6, H0, []⟩ "larger" 2 m_larger := (cal_larger T).cal (by decide)
  have h_lesser : Cal ⟨P, w, K, mg, base, ["bounds", "wanted", "lack", "values", "low", "high", "raising"], defScope st_raised_values, fun _ => true, 6, H0, []⟩ "lesser" 2 m_lesser := (cal_lesser T).cal (by decide)
  have h_minus : Cal ⟨P, w, K, mg, base, ["bounds", "wanted", "lack", "values", "low", "high", "raising"], defScope st_raised_values, fun _ => true, 6, H0, []⟩ "minus" 2 m_minus := (cal_minus T).cal (by decide)
  exact (ss_cons (s_set ⟨nd_raised_values, rfl, Or.inl lk_raised_values_lack, Or.inl rfl⟩ (e_call h_larger (a_cons (e_call h_minus (a_cons (e_var (i := 1) rfl (Or.inl lk_raised_values_wanted)) (a_cons (e_ix (e_call h_sums (a_cons (e_var (i := 0) rfl (Or.inl lk_raised_values_bounds)) a_nil) lk_raised_values_sums) e_int) a_nil)) lk_raised_values_minus) (a_cons (e_glob ⟨T.con_ZERO⟩) a_nil)) lk_raised_values_larger)) (ss_cons (s_set ⟨nd_raised_values, rfl, Or.inl lk_raised_values_values, Or.inl rfl⟩ (e_lst a_nil)) (ss_cons (s_for (i_val (e_var (i := 0) rfl (Or.inl lk_raised_values_bounds))) (g_tp (gs_cons (g_nm ⟨nd_raised_values, rfl, Or.inl lk_raised_values_low, Or.inl rfl⟩) (gs_cons (g_nm ⟨nd_raised_values, rfl, Or.inl lk_raised_values_high, Or.inl rfl⟩) gs_nil))) (ss_cons (s_set ⟨nd_raised_values, rfl, Or.inl lk_raised_values_raising, Or.inl rfl⟩ (e_call h_lesser (a_cons (e_call h_minus (a_cons (e_var (i := 5) rfl (Or.inl lk_raised_values_high)) (a_cons (e_var (i := 4) rfl (Or.inl lk_raised_values_low)) a_nil)) lk_raised_values_minus) (a_cons (e_var (i := 2) rfl (Or.inl lk_raised_values_lack)) a_nil)) lk_raised_values_lesser)) (ss_cons (s_ex (e_ml (i := 3) PySem.F.slot_list_append PySem.F.type_list_append (fun _ A => m_append A) (a_cons (e_call h_plus (a_cons (e_var (i := 4) rfl (Or.inl lk_raised_values_low)) (a_cons (e_var (i := 6) rfl (Or.inl lk_raised_values_raising)) a_nil)) lk_raised_values_plus) a_nil) rfl (Or.inl lk_raised_values_values))) (ss_one (s_set ⟨nd_raised_values, rfl, Or.inl lk_raised_values_lack, Or.inl rfl⟩ (e_call h_minus (a_cons (e_var (i := 2) rfl (Or.inl lk_raised_values_lack)) (a_cons (e_var (i := 6) rfl (Or.inl lk_raised_values_raising)) a_nil)) lk_raised_values_minus)))))) (ss_one (s_ret (e_cty (fun _ A => c_tup A) T.no_tuple rfl (a_cons (e_var (i := 3) rfl (Or.inl lk_raised_values_values)) a_nil) lk_raised_values_tuple))))))
theorem sc_settle_strike : FnScope ["subject", "paper", "bounds", "terms", "least", "greatest", "low", "high"] ["subject"] (defScope st_settle_strike) := ⟨rfl, rfl, rfl, by decide +kernel, rfl, by decide +kernel, by decide +kernel⟩
theorem nd_settle_strike : (["subject", "paper", "bounds", "terms", "least", "greatest", "low", "high"] : List Str).Nodup := sc_settle_strike.nd
theorem kd_settle_strike : (defScope st_settle_strike).kind = .function := rfl
theorem lk_settle_strike_bounds : (defScope st_settle_strike).names.lookup ("bounds" : Str) = some .local := by decide +kernel
theorem lk_settle_strike_check_strike : (defScope st_settle_strike).names.lookup ("check_strike" : Str) = some .globalImplicit := by decide +kernel
theorem lk_settle_strike_compare : (defScope st_settle_strike).names.lookup ("compare" : Str) = some .globalImplicit := by decide +kernel
theorem lk_settle_strike_first_apart : (defScope st_settle_strike).names.lookup ("first_apart" : Str) = some .globalImplicit := by decide +kernel
theorem lk_settle_strike_greatest : (defScope st_settle_strike).names.lookup ("greatest" : Str) = some .local := by decide +kernel
theorem lk_settle_strike_high : (defScope st_settle_strike).names.lookup ("high" : Str) = some .local := by decide +kernel
theorem lk_settle_strike_least : (defScope st_settle_strike).names.lookup ("least" : Str) = some .local := by decide +kernel
theorem lk_settle_strike_low : (defScope st_settle_strike).names.lookup ("low" : Str) = some .local := by decide +kernel
theorem lk_settle_strike_minus : (defScope st_settle_strike).names.lookup ("minus" : Str) = some .globalImplicit := by decide +kernel
theorem lk_settle_strike_paper : (defScope st_settle_strike).names.lookup ("paper" : Str) = some .local := by decide +kernel
theorem lk_settle_strike_raised_values : (defScope st_settle_strike).names.lookup ("raised_values" : Str) = some .globalImplicit := by decide +kernel
theorem lk_settle_strike_signed_bounds : (defScope st_settle_strike).names.lookup ("signed_bounds" : Str) = some .globalImplicit := by decide +kernel
theorem lk_settle_strike_subject : (defScope st_settle_strike).names.lookup ("subject" : Str) = some .local := by decide +kernel
theorem lk_settle_strike_sums : (defScope st_settle_strike).names.lookup ("sums" : Str) = some .globalImplicit := by decide +kernel
theorem lk_settle_strike_terms : (defScope st_settle_strike).names.lookup ("terms" : Str) = some .local := by decide +kernel
theorem lk_settle_strike_with_signs : (defScope st_settle_strike).names.lookup ("with_signs" : Str) = some .globalImplicit := by decide +kernel
theorem cal_settle_strike (T : Txt K mg) : Cal0 P w K mg base 9 "settle_strike" 1 m_settle_strike := by
  refine Cal0.of (k := 8) (m := 7) (f := b_settle_strike) T.fn_settle_strike sc_settle_strike rfl rfl fun H0 => ?_
  have h_compare : Cal ⟨P, w, K, mg, base, ["subject", "paper", "bounds", "terms", "least", "greatest", "low", "high"], defScope st_settle_strike, fun _ => true, 8, H0, []⟩ "compare" 2 m_compare := (cal_compare T).cal (by decide)
  have h_check_strike : Cal ⟨P, w, K, mg, base, ["subject", "paper", "bounds", "terms", "least", "greatest", "low", "high"], defScope st_settle_strike, fun _ => true, 8, H0, []⟩ "check_strike" 1 m_check_strike := (cal_check_strike T).cal (by decide)
  have h_sums : Cal ⟨P, w, K, mg, base, ["subject", "paper", "bounds", "terms", "least", "greatest", "low", "high"], defScope st_settle_strike, fun _ => true, 8, H0, []⟩ "sums" 1 m_sums := (cal_sums T).cal (by decide)
  have h_minus : Cal ⟨P, w, K, mg, base, ["subject", "paper", "bounds", "terms", "least", "greatest", "low", "high"], defScope st_settle_strike, fun _ => true, 8, H0, []⟩ "minus" 2 m_minus := (cal_minus T).cal (by decide)
  have h_signed_bounds : Cal ⟨P, w, K, mg, base, ["subject", "paper", "bounds", "terms", "least", "greatest", "low", "high"], defScope st_settle_strike, fun _ => true, 8, H0, []⟩ "signed_bounds" 1 m_signed_bounds := (cal_signed_bounds T).cal (by decide)
  have h_with_signs : Cal ⟨P, w, K, mg, base, ["subject", "paper", "bounds", "terms", "least", "greatest", "low", "high"], defScope st_settle_strike, fun _ => true, 8, H0, []⟩ "with_signs" 2 m_with_signs := (cal_with_signs T).cal (by decide)
  have h_first_apart : Cal ⟨P, w, K, mg, base, ["subject", "paper", "bounds", "terms", "least", "greatest", "low", "high"], defScope st_settle_strike, fun _ => true, 8, H0, []⟩ "first_apart" 1 m_first_apart := (cal_first_apart T).cal (by decide)
  have h_raised_values : Cal ⟨P, w, K, mg, base, ["subject", "paper", "bounds", "terms", "least", "greatest", "low", "high"], defScope st_settle_strike, fun _ => true, 8, H0, []⟩ "raised_values" 2 m_raised_values := (cal_raised_values T).cal (by decide)
  exact (ss_cons (s_ex (e_call h_check_strike (a_cons (e_var (i := 0) rfl (Or.inl lk_settle_strike_subject)) a_nil) lk_settle_strike_check_strike)) (ss_cons (s_asg (e_var (i := 0) rfl (Or.inl lk_settle_strike_subject)) (g_tp (gs_cons (g_nm ⟨nd_settle_strike, rfl, Or.inl lk_settle_strike_terms, Or.inl rfl⟩) (gs_cons (g_tp (gs_cons (g_nm ⟨nd_settle_strike, rfl, Or.inl lk_settle_strike_low, Or.inl rfl⟩) (gs_cons (g_nm ⟨nd_settle_strike, rfl, Or.inl lk_settle_strike_high, Or.inl rfl⟩) gs_nil))) gs_nil)))) (ss_cons (s_set ⟨nd_settle_strike, rfl, Or.inl lk_settle_strike_paper, Or.inl rfl⟩ (e_call h_first_apart (a_cons (e_var (i := 3) rfl (Or.inl lk_settle_strike_terms)) a_nil) lk_settle_strike_first_apart)) (ss_cons (s_if (t_cmp (fun _ A => o_isnot A) (e_var (i := 1) rfl (Or.inl lk_settle_strike_paper)) e_non) (ss_one (s_ret (e_tup (a_cons e_str (a_cons (e_var (i := 1) rfl (Or.inl lk_settle_strike_paper)) a_nil))))) ss_nil) (ss_cons (s_set ⟨nd_settle_strike, rfl, Or.inl lk_settle_strike_bounds, Or.inl rfl⟩ (e_call h_signed_bounds (a_cons (e_var (i := 3) rfl (Or.inl lk_settle_strike_terms)) a_nil) lk_settle_strike_signed_bounds)) (ss_cons (s_asg (e_call h_sums (a_cons (e_var (i := 2) rfl (Or.inl lk_settle_strike_bounds)) a_nil) lk_settle_strike_sums) (g_tp (gs_cons (g_nm ⟨nd_settle_strike, rfl, Or.inl lk_settle_strike_least, Or.inl rfl⟩) (gs_cons (g_nm ⟨nd_settle_strike, rfl, Or.inl lk_settle_strike_greatest, Or.inl rfl⟩) gs_nil)))) (ss_cons (s_if (t_cmp (fun _ A => o_gt A) (e_call h_compare (a_cons (e_var (i := 4) rfl (Or.inl lk_settle_strike_least)) (a_cons (e_var (i := 7) rfl (Or.inl lk_settle_strike_high)) a_nil)) lk_settle_strike_compare) e_int) (ss_one (s_ret (e_tup (a_cons e_str (a_cons (e_tup (a_cons e_str (a_cons (e_call h_minus (a_cons (e_var (i := 4) rfl (Or.inl lk_settle_strike_least)) (a_cons (e_var (i := 7) rfl (Or.inl lk_settle_strike_high)) a_nil)) lk_settle_strike_minus) a_nil))) a_nil))))) ss_nil) (ss_cons (s_if (t_cmp (fun _ A => o_lt A) (e_call h_compare (a_cons (e_var (i := 5) rfl (Or.inl lk_settle_strike_greatest)) (a_cons (e_var (i := 6) rfl (Or.inl lk_settle_strike_low)) a_nil)) lk_settle_strike_compare) e_int) (ss_one (s_ret (e_tup (a_cons e_str (a_cons (e_tup (a_cons e_str (a_cons (e_call h_minus (a_cons (e_var (i := 6) rfl (Or.inl lk_settle_strike_low)) (a_cons (e_var (i := 5) rfl (Or.inl lk_settle_strike_greatest)) a_nil)) lk_settle_strike_minus) a_nil))) a_nil))))) ss_nil) (ss_one (s_ret (e_tup (a_cons e_str (a_cons (e_call h_with_signs (a_cons (e_var (i := 3) rfl (Or.inl lk_settle_strike_terms)) (a_cons (e_call h_raised_values (a_cons (e_var (i := 2) rfl (Or.inl lk_settle_strike_bounds)) (a_cons (e_var (i := 6) rfl (Or.inl lk_settle_strike_low)) a_nil)) lk_settle_strike_raised_values) a_nil)) lk_settle_strike_with_signs) a_nil)))))))))))))
theorem sc__law_yes_papers : FnScope ["pool", "terms", "total_v", "unit", "values", "paper", "at", "found", "step", "drawn", "t", "bounds", "value"] ["pool", "terms", "total_v", "unit"] (defScope st__law_yes_papers) := ⟨rfl, rfl, rfl, by decide +kernel, rfl, by decide +kernel, by decide +kernel⟩
theorem nd__law_yes_papers : (["pool", "terms", "total_v", "unit", "values", "paper", "at", "found", "step", "drawn", "t", "bounds", "value"] : List Str).Nodup := sc__law_yes_papers.nd
theorem kd__law_yes_papers : (defScope st__law_yes_papers).kind = .function := rfl
theorem lk__law_yes_papers__law_at : (defScope st__law_yes_papers).names.lookup ("_law_at" : Str) = some .globalImplicit := by decide +kernel
theorem lk__law_yes_papers__law_meet : (defScope st__law_yes_papers).names.lookup ("_law_meet" : Str) = some .globalImplicit := by decide +kernel
theorem lk__law_yes_papers__law_ratio : (defScope st__law_yes_papers).names.lookup ("_law_ratio" : Str) = some .globalImplicit := by decide +kernel
theorem lk__law_yes_papers__law_values : (defScope st__law_yes_papers).names.lookup ("_law_values" : Str) = some .globalImplicit := by decide +kernel
theorem lk__law_yes_papers_abs : (defScope st__law_yes_papers).names.lookup ("abs" : Str) = some .globalImplicit := by decide +kernel
theorem lk__law_yes_papers_at : (defScope st__law_yes_papers).names.lookup ("at" : Str) = some .local := by decide +kernel
theorem lk__law_yes_papers_bounds : (defScope st__law_yes_papers).names.lookup ("bounds" : Str) = some .local := by decide +kernel
theorem lk__law_yes_papers_drawn : (defScope st__law_yes_papers).names.lookup ("drawn" : Str) = some .local := by decide +kernel
theorem lk__law_yes_papers_found : (defScope st__law_yes_papers).names.lookup ("found" : Str) = some .local := by decide +kernel
theorem lk__law_yes_papers_int : (defScope st__law_yes_papers).names.lookup ("int" : Str) = some .globalImplicit := by decide +kernel
theorem lk__law_yes_papers_len : (defScope st__law_yes_papers).names.lookup ("len" : Str) = some .globalImplicit := by decide +kernel
theorem lk__law_yes_papers_list : (defScope st__law_yes_papers).names.lookup ("list" : Str) = some .globalImplicit := by decide +kernel
theorem lk__law_yes_papers_paper : (defScope st__law_yes_papers).names.lookup ("paper" : Str) = some .local := by decide +kernel
theorem lk__law_yes_papers_pool : (defScope st__law_yes_papers).names.lookup ("pool" : Str) = some .local := by decide +kernel
theorem lk__law_yes_papers_range : (defScope st__law_yes_papers).names.lookup ("range" : Str) = some .globalImplicit := by decide +kernel
theorem lk__law_yes_papers_step : (defScope st__law_yes_papers).names.lookup ("step" : Str) = some .local := by decide +kernel
theorem lk__law_yes_papers_t : (defScope st__law_yes_papers).names.lookup ("t" : Str) = some .local := by decide +kernel
theorem lk__law_yes_papers_terms : (defScope st__law_yes_papers).names.lookup ("terms" : Str) = some .local := by decide +kernel
theorem lk__law_yes_papers_total_v : (defScope st__law_yes_papers).names.lookup ("total_v" : Str) = some .local := by decide +kernel
theorem lk__law_yes_papers_tuple : (defScope st__law_yes_papers).names.lookup ("tuple" : Str) = some .globalImplicit := by decide +kernel
theorem lk__law_yes_papers_unit : (defScope st__law_yes_papers).names.lookup ("unit" : Str) = some .cell := by decide +kernel
theorem lk__law_yes_papers_values : (defScope st__law_yes_papers).names.lookup ("values" : Str) = some .local := by decide +kernel
theorem cal__law_yes_papers (T : Txt K mg) : Cal0 P w K mg base 3 "_law_yes_papers" 4 m__law_yes_papers := by
  refine Cal0.of (k := 2) (m := 9) (f := b__law_yes_papers) T.fn__law_yes_papers sc__law_yes_papers rfl rfl fun H0 => ?_
  have h__law_at : Cal ⟨P, w, K, mg, base, ["pool", "terms", "total_v", "unit", "values", "paper", "at", "found", "step", "drawn", "t", "bounds", "value"], defScope st__law_yes_papers, fun _ => true, 2, H0, []⟩ "_law_at" 2 m__law_at := (cal__law_at T).cal (by decide)
  have h__law_meet : Cal ⟨P, w, K, mg, base, ["pool", "terms", "total_v", "unit", "values", "paper", "at", "found", "step", "drawn", "t", "bounds", "value"], defScope st__law_yes_papers, fun _ => true, 2, H0, []⟩ "_law_meet" 1 m__law_meet := (cal__law_meet T).cal (by decide)
  have h__law_ratio : Cal ⟨P, w, K, mg, base, ["pool", "terms", "total_v", "unit", "values", "paper", "at", "found", "step", "drawn", "t", "bounds", "value"], defScope st__law_yes_papers, fun _ => true, 2, H0, []⟩ "_law_ratio" 2 m__law_ratio := (cal__law_ratio T).cal (by decide)
  have h__law_values : Cal ⟨P, w, K, mg, base, ["pool", "terms", "total_v", "unit", "values", "paper", "at", "found", "step", "drawn", "t", "bounds", "value"], defScope st__law_yes_papers, fun _ => true, 2, H0, []⟩ "_law_values" 4 m__law_values := (cal__law_values T).cal (by decide)
  exact (ss_cons (s_set ⟨nd__law_yes_papers, rfl, Or.inl lk__law_yes_papers_values, Or.inl rfl⟩ (e_call h__law_values (a_cons (e_var (i := 1) rfl (Or.inl lk__law_yes_papers_terms)) (a_cons (e_ix (e_var (i := 2) rfl (Or.inl lk__law_yes_papers_total_v)) e_int) (a_cons (e_un (fun _ A => o_neg A) e_int) (a_cons e_int a_nil)))) lk__law_yes_papers__law_values)) (ss_cons (s_set ⟨nd__law_yes_papers, rfl, Or.inl lk__law_yes_papers_paper, Or.inl rfl⟩ (e_cty (fun _ A => c_tup A) T.no_tuple rfl (a_cons (e_lc (own := [("value", 12)]) nd__law_yes_papers (by dsimp only; decide +kernel) rfl rfl (i_val (e_var (i := 4) rfl (Or.inl lk__law_yes_papers_values))) (fun _ => (g_nm ⟨nd__law_yes_papers, rfl, (by first | exact Or.inl rfl | exact Or.inr rfl), (by first | exact Or.inl rfl | exact Or.inr rfl)⟩)) (fun _ => ts_no) (fun _ => (e_call ⟨h__law_ratio.ex⟩ (a_cons (e_var (i := 12) rfl ) (a_cons (e_var (i := 3) rfl ) a_nil)) ))) a_nil) lk__law_yes_papers_tuple)) (ss_cons (s_set ⟨nd__law_yes_papers, rfl, Or.inl lk__law_yes_papers_at, Or.inl rfl⟩ (e_bin (fun _ A => o_mod A) (e_cty (fun _ A => c_int A) T.no_int rfl (a_cons (e_call h__law_at (a_cons (e_var (i := 0) rfl (Or.inl lk__law_yes_papers_pool)) (a_cons e_int a_nil)) lk__law_yes_papers__law_at) a_nil) lk__law_yes_papers_int) (e_cb (fun _ A => c_len1 A) T.no_len rfl (a_cons (e_var (i := 4) rfl (Or.inl lk__law_yes_papers_values)) a_nil) lk__law_yes_papers_len))) (ss_cons (s_set ⟨nd__law_yes_papers, rfl, Or.inl lk__law_yes_papers_found, Or.inl rfl⟩ (e_lst (a_cons (e_var (i := 5) rfl (Or.inl lk__law_yes_papers_paper)) (a_cons (e_cty (fun _ A => c_list A) T.no_list rfl (a_cons (e_var (i := 5) rfl (Or.inl lk__law_yes_papers_paper)) a_nil) lk__law_yes_papers_list) (a_cons (e_sl (e_var (i := 5) rfl (Or.inl lk__law_yes_papers_paper)) p_no (p_so (e_un (fun _ A => o_neg A) e_int))) (a_cons (e_bin (fun _ A => o_add A) (e_var (i := 5) rfl (Or.inl lk__law_yes_papers_paper)) (e_tup (a_cons (e_tup (a_cons e_int (a_cons e_int a_nil))) a_nil))) (a_cons (e_bin (fun _ A => o_add A) (e_bin (fun _ A => o_add A) (e_sl (e_var (i := 5) rfl (Or.inl lk__law_yes_papers_paper)) p_no (p_so (e_var (i := 6) rfl (Or.inl lk__law_yes_papers_at)))) (e_tup (a_cons (e_ix (e_ix (e_var (i := 5) rfl (Or.inl lk__law_yes_papers_paper)) (e_var (i := 6) rfl (Or.inl lk__law_yes_papers_at))) e_int) a_nil))) (e_sl (e_var (i := 5) rfl (Or.inl lk__law_yes_papers_paper)) (p_so (e_bin (fun _ A => o_add A) (e_var (i := 6) rfl (Or.inl lk__law_yes_papers_at)) e_int)) p_no)) a_nil))))))) (ss_cons (s_ex (e_ml (i := 7) PySem.F.slot_list_append PySem.F.type_list_append (fun _ A => m_append A) (a_cons (e_bin (fun _ A => o_add A) (e_bin (fun _ A => o_add A) (e_sl (e_var (i := 5) rfl (Or.inl lk__law_yes_papers_paper)) p_no (p_so (e_var (i := 6) rfl (Or.inl lk__law_yes_papers_at)))) (e_tup (a_cons (e_tup (a_cons (e_bin (fun _ A => o_mul A) e_int (e_ix (e_ix (e_var (i := 5) rfl (Or.inl lk__law_yes_papers_paper)) (e_var (i := 6) rfl (Or.inl lk__law_yes_papers_at))) e_int)) (a_cons (e_bin (fun _ A => o_mul A) e_int (e_ix (e_ix (e_var (i := 5) rfl (Or.inl lk__law_yes_papers_paper)) (e_var (i := 6) rfl (Or.inl lk__law_yes_papers_at))) e_int)) a_nil))) a_nil))) (e_sl (e_var (i := 5) rfl (Or.inl lk__law_yes_papers_paper)) (p_so (e_bin (fun _ A => o_add A) (e_var (i := 6) rfl (Or.inl lk__law_yes_papers_at)) e_int)) p_no)) a_nil) rfl (Or.inl lk__law_yes_papers_found))) (ss_cons (s_ex (e_ml (i := 7) PySem.F.slot_list_append PySem.F.type_list_append (fun _ A => m_append A) (a_cons (e_bin (fun _ A => o_add A) (e_bin (fun _ A => o_add A) (e_sl (e_var (i := 5) rfl (Or.inl lk__law_yes_papers_paper)) p_no (p_so (e_var (i := 6) rfl (Or.inl lk__law_yes_papers_at)))) (e_tup (a_cons (e_tup (a_cons (e_ix (e_ix (e_var (i := 5) rfl (Or.inl lk__law_yes_papers_paper)) (e_var (i := 6) rfl (Or.inl lk__law_yes_papers_at))) e_int) (a_cons (e_un (fun _ A => o_neg A) (e_ix (e_ix (e_var (i := 5) rfl (Or.inl lk__law_yes_papers_paper)) (e_var (i := 6) rfl (Or.inl lk__law_yes_papers_at))) e_int)) a_nil))) a_nil))) (e_sl (e_var (i := 5) rfl (Or.inl lk__law_yes_papers_paper)) (p_so (e_bin (fun _ A => o_add A) (e_var (i := 6) rfl (Or.inl lk__law_yes_papers_at)) e_int)) p_no)) a_nil) rfl (Or.inl lk__law_yes_papers_found))) (ss_cons (s_for (i_val (e_lst (a_cons e_int (a_cons (e_un (fun _ A => o_neg A) e_int) (a_cons e_int (a_cons (e_un (fun _ A => o_neg A) e_int) (a_cons e_int a_nil))))))) (g_nm ⟨nd__law_yes_papers, rfl, Or.inl lk__law_yes_papers_step, Or.inl rfl⟩) (ss_one (s_ex (e_ml (i := 7) PySem.F.slot_list_append PySem.F.type_list_append (fun _ A => m_append A) (a_cons (e_bin (fun _ A => o_add A) (e_bin (fun _ A => o_add A) (e_sl (e_var (i := 5) rfl (Or.inl lk__law_yes_papers_paper)) p_no (p_so (e_var (i := 6) rfl (Or.inl lk__law_yes_papers_at)))) (e_tup (a_cons (e_call h__law_ratio (a_cons (e_bin (fun _ A => o_add A) (e_bin (fun _ A => o_mul A) e_int (e_ix (e_var (i := 4) rfl (Or.inl lk__law_yes_papers_values)) (e_var (i := 6) rfl (Or.inl lk__law_yes_papers_at)))) (e_var (i := 8) rfl (Or.inl lk__law_yes_papers_step))) (a_cons (e_bin (fun _ A => o_mul A) e_int (e_var (i := 3) rfl (Or.inr (Or.inl lk__law_yes_papers_unit)))) a_nil)) lk__law_yes_papers__law_ratio) a_nil))) (e_sl (e_var (i := 5) rfl (Or.inl lk__law_yes_papers_paper)) (p_so (e_bin (fun _ A => o_add A) (e_var (i := 6) rfl (Or.inl lk__law_yes_papers_at)) e_int)) p_no)) a_nil) rfl (Or.inl lk__law_yes_papers_found))))) (ss_cons (s_set ⟨nd__law_yes_papers, rfl, Or.inl lk__law_yes_papers_drawn, Or.inl rfl⟩ (e_lst a_nil)) (ss_cons (s_for (i_rg1 T.no_range (a_cons (e_cb (fun _ A => c_len1 A) T.no_len rfl (a_cons (e_var (i := 1) rfl (Or.inl lk__law_yes_papers_terms)) a_nil) lk__law_yes_papers_len) a_nil) lk__law_yes_papers_range) (g_nm ⟨nd__law_yes_papers, rfl, Or.inl lk__law_yes_papers_t, Or.inl rfl⟩) (ss_cons (s_set ⟨nd__law_yes_papers, rfl, Or.inl lk__law_yes_papers_bounds, Or.inl rfl⟩ (e_call h__law_meet (a_cons (e_ix (e_ix (e_var (i := 1) rfl (Or.inl lk__law_yes_papers_terms)) (e_var (i := 10) rfl (Or.inl lk__law_yes_papers_t))) e_int) a_nil) lk__law_yes_papers__law_meet)) (ss_one (s_ex (e_ml (i := 9) PySem.F.slot_list_append PySem.F.type_list_append (fun _ A => m_append A) (a_cons (e_bin (fun _ A => o_add A) (e_ix (e_var (i := 11) rfl (Or.inl lk__law_yes_papers_bounds)) e_int) (e_bin (fun _ A => o_mod A) (e_cty (fun _ A => c_int A) T.no_int rfl (a_cons (e_call h__law_at (a_cons (e_var (i := 0) rfl (Or.inl lk__law_yes_papers_pool)) (a_cons (e_bin (fun _ A => o_add A) e_int (e_var (i := 10) rfl (Or.inl lk__law_yes_papers_t))) a_nil)) lk__law_yes_papers__law_at) a_nil) lk__law_yes_papers_int) (e_bin (fun _ A => o_add A) (e_cb (fun _ A => c_abs A) T.no_abs rfl (a_cons (e_bin (fun _ A => o_sub A) (e_ix (e_var (i := 11) rfl (Or.inl lk__law_yes_papers_bounds)) e_int) (e_ix (e_var (i := 11) rfl (Or.inl lk__law_yes_papers_bounds)) e_int)) a_nil) lk__law_yes_papers_abs) e_int))) a_nil) rfl (Or.inl lk__law_yes_papers_drawn)))))) (ss_cons (s_ex (e_ml (i := 7) PySem.F.slot_list_append PySem.F.type_list_append (fun _ A => m_append A) (a_cons (e_cty (fun _ A => c_tup A) T.no_tuple rfl (a_cons (e_lc (own := [("value", 12)]) nd__law_yes_papers (by dsimp only; decide +kernel) rfl rfl (i_val (e_var (i := 9) rfl (Or.inl lk__law_yes_papers_drawn))) (fun _ => (g_nm ⟨nd__law_yes_papers, rfl, (by first | exact Or.inl rfl | exact Or.inr rfl), (by first | exact Or.inl rfl | exact Or.inr rfl)⟩)) (fun _ => ts_no) (fun _ => (e_call ⟨h__law_ratio.ex⟩ (a_cons (e_var (i := 12) rfl ) (a_cons (e_var (i := 3) rfl ) a_nil)) ))) a_nil) lk__law_yes_papers_tuple) a_nil) rfl (Or.inl lk__law_yes_papers_found))) (ss_one (s_ret (e_bin (fun _ A => o_add A) (e_var (i := 7) rfl (Or.inl lk__law_yes_papers_found)) (e_lst (a_cons (e_tup a_nil) (a_cons e_non (a_cons e_int (a_cons e_str a_nil))))))))))))))))))
theorem sc__law_no_papers : FnScope ["pool", "terms", "total_v", "unit", "found", "t", "i", "ends", "parts", "j", "word"] ["pool", "terms", "total_v", "unit"] (defScope st__law_no_papers) := ⟨rfl, rfl, rfl, by decide +kernel, rfl, by decide +kernel, by decide +kernel⟩
theorem nd__law_no_papers : (["pool", "terms", "total_v", "unit", "found", "t", "i", "ends", "parts", "j", "word"] : List Str).Nodup := sc__law_no_papers.nd
theorem kd__law_no_papers : (defScope st__law_no_papers).kind = .function := rfl
theorem lk__law_no_papers__law_apart : (defScope st__law_no_papers).names.lookup ("_law_apart" : Str) = some .globalImplicit := by decide +kernel
theorem lk__law_no_papers__law_at : (defScope st__law_no_papers).names.lookup ("_law_at" : Str) = some .globalImplicit := by decide +kernel
theorem lk__law_no_papers__law_ends : (defScope st__law_no_papers).names.lookup ("_law_ends" : Str) = some .globalImplicit := by decide +kernel
theorem lk__law_no_papers__law_ratio : (defScope st__law_no_papers).names.lookup ("_law_ratio" : Str) = some .globalImplicit := by decide +kernel
theorem lk__law_no_papers_ends : (defScope st__law_no_papers).names.lookup ("ends" : Str) = some .local := by decide +kernel
theorem lk__law_no_papers_found : (defScope st__law_no_papers).names.lookup ("found" : Str) = some .local := by decide +kernel
theorem lk__law_no_papers_i : (defScope st__law_no_papers).names.lookup ("i" : Str) = some .local := by decide +kernel
theorem lk__law_no_papers_int : (defScope st__law_no_papers).names.lookup ("int" : Str) = some .globalImplicit := by decide +kernel
theorem lk__law_no_papers_j : (defScope st__law_no_papers).names.lookup ("j" : Str) = some .local := by decide +kernel
theorem lk__law_no_papers_len : (defScope st__law_no_papers).names.lookup ("len" : Str) = some .globalImplicit := by decide +kernel
theorem lk__law_no_papers_list : (defScope st__law_no_papers).names.lookup ("list" : Str) = some .globalImplicit := by decide +kernel
theorem lk__law_no_papers_parts : (defScope st__law_no_papers).names.lookup ("parts" : Str) = some .local := by decide +kernel
theorem lk__law_no_papers_pool : (defScope st__law_no_papers).names.lookup ("pool" : Str) = some .local := by decide +kernel
theorem lk__law_no_papers_range : (defScope st__law_no_papers).names.lookup ("range" : Str) = some .globalImplicit := by decide +kernel
theorem lk__law_no_papers_t : (defScope st__law_no_papers).names.lookup ("t" : Str) = some .local := by decide +kernel
theorem lk__law_no_papers_terms : (defScope st__law_no_papers).names.lookup ("terms" : Str) = some .local := by decide +kernel
theorem lk__law_no_papers_total_v : (defScope st__law_no_papers).names.lookup ("total_v" : Str) = some .local := by decide +kernel
theorem lk__law_no_papers_unit : (defScope st__law_no_papers).names.lookup ("unit" : Str) = some .local := by decide +kernel
theorem lk__law_no_papers_word : (defScope st__law_no_papers).names.lookup ("word" : Str) = some .local := by decide +kernel
theorem cal__law_no_papers (T : Txt K mg) : Cal0 P w K mg base 3 "_law_no_papers" 4 m__law_no_papers := by
  refine Cal0.of (k := 2) (m := 7) (f := b__law_no_papers) T.fn__law_no_papers sc__law_no_papers rfl rfl fun H0 => ?_
  have h__law_at : Cal ⟨P, w, K, mg, base, ["pool", "terms", "total_v", "unit", "found", "t", "i", "ends", "parts", "j", "word"], defScope st__law_no_papers, fun _ => true, 2, H0, []⟩ "_law_at" 2 m__law_at := (cal__law_at T).cal (by decide)
  have h__law_ends : Cal ⟨P, w, K, mg, base, ["pool", "terms", "total_v", "unit", "found", "t", "i", "ends", "parts", "j", "word"], defScope st__law_no_papers, fun _ => true, 2, H0, []⟩ "_law_ends" 1 m__law_ends := (cal__law_ends T).cal (by decide)
  have h__law_ratio : Cal ⟨P, w, K, mg, base, ["pool", "terms", "total_v", "unit", "found", "t", "i", "ends", "parts", "j", "word"], defScope st__law_no_papers, fun _ => true, 2, H0, []⟩ "_law_ratio" 2 m__law_ratio := (cal__law_ratio T).cal (by decide)
  have h__law_apart : Cal ⟨P, w, K, mg, base, ["pool", "terms", "total_v", "unit", "found", "t", "i", "ends", "parts", "j", "word"], defScope st__law_no_papers, fun _ => true, 2, H0, []⟩ "_law_apart" 1 m__law_apart := (cal__law_apart T).cal (by decide)
  exact (ss_cons (s_set ⟨nd__law_no_papers, rfl, Or.inl lk__law_no_papers_found, Or.inl rfl⟩ (e_lst (a_cons (e_tup a_nil) (a_cons e_non (a_cons (e_tup (a_cons e_str a_nil)) (a_cons (e_tup (a_cons e_str a_nil)) (a_cons (e_tup (a_cons e_str (a_cons e_int (a_cons e_int (a_cons e_int a_nil))))) (a_cons (e_lst (a_cons e_str (a_cons (e_tup (a_cons e_int (a_cons e_int a_nil))) a_nil))) (a_cons (e_tup (a_cons e_str (a_cons e_int (a_cons e_int (a_cons e_bl a_nil))))) (a_cons (e_tup (a_cons e_str (a_cons e_int a_nil))) a_nil)))))))))) (ss_cons (s_set ⟨nd__law_no_papers, rfl, Or.inl lk__law_no_papers_t, Or.inl rfl⟩ (e_bin (fun _ A => o_mod A) (e_cty (fun _ A => c_int A) T.no_int rfl (a_cons (e_call h__law_at (a_cons (e_var (i := 0) rfl (Or.inl lk__law_no_papers_pool)) (a_cons e_int a_nil)) lk__law_no_papers__law_at) a_nil) lk__law_no_papers_int) (e_cb (fun _ A => c_len1 A) T.no_len rfl (a_cons (e_var (i := 1) rfl (Or.inl lk__law_no_papers_terms)) a_nil) lk__law_no_papers_len))) (ss_cons (s_for (i_rg1 T.no_range (a_cons e_int a_nil) lk__law_no_papers_range) (g_nm ⟨nd__law_no_papers, rfl, Or.inl lk__law_no_papers_i, Or.inl rfl⟩) (ss_one (s_for (i_rg1 T.no_range (a_cons e_int a_nil) lk__law_no_papers_range) (g_nm ⟨nd__law_no_papers, rfl, Or.inl lk__law_no_papers_j, Or.inl rfl⟩) (ss_one (s_ex (e_ml (i := 4) PySem.F.slot_list_append PySem.F.type_list_append (fun _ A => m_append A) (a_cons (e_tup (a_cons e_str (a_cons (e_var (i := 5) rfl (Or.inl lk__law_no_papers_t)) (a_cons (e_var (i := 6) rfl (Or.inl lk__law_no_papers_i)) (a_cons (e_var (i := 9) rfl (Or.inl lk__law_no_papers_j)) a_nil))))) a_nil) rfl (Or.inl lk__law_no_papers_found))))))) (ss_cons (s_if (t_cmp (fun _ A => o_isnot A) (e_call h__law_apart (a_cons (e_var (i := 1) rfl (Or.inl lk__law_no_papers_terms)) a_nil) lk__law_no_papers__law_apart) e_non) (ss_cons (s_ex (e_ml (i := 4) PySem.F.slot_list_append PySem.F.type_list_append (fun _ A => m_append A) (a_cons (e_call h__law_apart (a_cons (e_var (i := 1) rfl (Or.inl lk__law_no_papers_terms)) a_nil) lk__law_no_papers__law_apart) a_nil) rfl (Or.inl lk__law_no_papers_found))) (ss_one (s_ex (e_ml (i := 4) PySem.F.slot_list_append PySem.F.type_list_append (fun _ A => m_append A) (a_cons (e_cty (fun _ A => c_list A) T.no_list rfl (a_cons (e_call h__law_apart (a_cons (e_var (i := 1) rfl (Or.inl lk__law_no_papers_terms)) a_nil) lk__law_no_papers__law_apart) a_nil) lk__law_no_papers_list) a_nil) rfl (Or.inl lk__law_no_papers_found))))) ss_nil) (ss_cons (s_set ⟨nd__law_no_papers, rfl, Or.inl lk__law_no_papers_ends, Or.inl rfl⟩ (e_call h__law_ends (a_cons (e_var (i := 1) rfl (Or.inl lk__law_no_papers_terms)) a_nil) lk__law_no_papers__law_ends)) (ss_cons (s_for (i_val (e_lst (a_cons (e_bin (fun _ A => o_sub A) (e_ix (e_var (i := 7) rfl (Or.inl lk__law_no_papers_ends)) e_int) (e_ix (e_var (i := 2) rfl (Or.inl lk__law_no_papers_total_v)) e_int)) (a_cons (e_bin (fun _ A => o_sub A) (e_ix (e_var (i := 2) rfl (Or.inl lk__law_no_papers_total_v)) e_int) (e_ix (e_var (i := 7) rfl (Or.inl lk__law_no_papers_ends)) e_int)) (a_cons e_int (a_cons e_int a_nil)))))) (g_nm ⟨nd__law_no_papers, rfl, Or.inl lk__law_no_papers_parts, Or.inl rfl⟩) (ss_one (s_for (i_val (e_lst (a_cons e_str (a_cons e_str a_nil)))) (g_nm ⟨nd__law_no_papers, rfl, Or.inl lk__law_no_papers_word, Or.inl rfl⟩) (ss_cons (s_ex (e_ml (i := 4) PySem.F.slot_list_append PySem.F.type_list_append (fun _ A => m_append A) (a_cons (e_tup (a_cons (e_var (i := 10) rfl (Or.inl lk__law_no_papers_word)) (a_cons (e_call h__law_ratio (a_cons (e_var (i := 8) rfl (Or.inl lk__law_no_papers_parts)) (a_cons (e_var (i := 3) rfl (Or.inl lk__law_no_papers_unit)) a_nil)) lk__law_no_papers__law_ratio) a_nil))) a_nil) rfl (Or.inl lk__law_no_papers_found))) (ss_cons (s_ex (e_ml (i := 4) PySem.F.slot_list_append PySem.F.type_list_append (fun _ A => m_append A) (a_cons (e_tup (a_cons (e_var (i := 10) rfl (Or.inl lk__law_no_papers_word)) (a_cons (e_call h__law_ratio (a_cons (e_bin (fun _ A => o_mul A) e_int (e_var (i := 8) rfl (Or.inl lk__law_no_papers_parts))) (a_cons (e_var (i := 3) rfl (Or.inl lk__law_no_papers_unit)) a_nil)) lk__law_no_papers__law_ratio) a_nil))) a_nil) rfl (Or.inl lk__law_no_papers_found))) (ss_one (s_ex (e_ml (i := 4) PySem.F.slot_list_append PySem.F.type_list_append (fun _ A => m_append A) (a_cons (e_tup (a_cons (e_var (i := 10) rfl (Or.inl lk__law_no_papers_word)) (a_cons (e_call h__law_ratio (a_cons (e_un (fun _ A => o_neg A) (e_var (i := 8) rfl (Or.inl lk__law_no_papers_parts))) (a_cons (e_var (i := 3) rfl (Or.inl lk__law_no_papers_unit)) a_nil)) lk__law_no_papers__law_ratio) a_nil))) a_nil) rfl (Or.inl lk__law_no_papers_found))))))))) (ss_one (s_ret (e_var (i := 4) rfl (Or.inl lk__law_no_papers_found))))))))))
theorem sc_law : FnScope ["script", "pool", "drawn", "terms", "unit", "total_v", "subject", "due", "answers", "answer", "told", "paper"] ["script"] (defScope st_law) := ⟨rfl, rfl, rfl, by decide +kernel, rfl, by decide +kernel, by decide +kernel⟩
theorem nd_law : (["script", "pool", "drawn", "terms", "unit", "total_v", "subject", "due", "answers", "answer", "told", "paper"] : List Str).Nodup := sc_law.nd
theorem kd_law : (defScope st_law).kind = .function := rfl
theorem lk_law__law_due : (defScope st_law).names.lookup ("_law_due" : Str) = some .globalImplicit := by decide +kernel
theorem lk_law__law_no_papers : (defScope st_law).names.lookup ("_law_no_papers" : Str) = some .globalImplicit := by decide +kernel
theorem lk_law__law_pool : (defScope st_law).names.lookup ("_law_pool" : Str) = some .globalImplicit := by decide +kernel
theorem lk_law__law_right : (defScope st_law).names.lookup ("_law_right" : Str) = some .globalImplicit := by decide +kernel
theorem lk_law__law_strike : (defScope st_law).names.lookup ("_law_strike" : Str) = some .globalImplicit := by decide +kernel
theorem lk_law__law_subject : (defScope st_law).names.lookup ("_law_subject" : Str) = some .globalImplicit := by decide +kernel
theorem lk_law__law_total : (defScope st_law).names.lookup ("_law_total" : Str) = some .globalImplicit := by decide +kernel
theorem lk_law__law_yes_papers : (defScope st_law).names.lookup ("_law_yes_papers" : Str) = some .globalImplicit := by decide +kernel
theorem lk_law_answer : (defScope st_law).names.lookup ("answer" : Str) = some .local := by decide +kernel
theorem lk_law_answers : (defScope st_law).names.lookup ("answers" : Str) = some .local := by decide +kernel
theorem lk_law_drawn : (defScope st_law).names.lookup ("drawn" : Str) = some .local := by decide +kernel
theorem lk_law_due : (defScope st_law).names.lookup ("due" : Str) = some .local := by decide +kernel
theorem lk_law_list : (defScope st_law).names.lookup ("list" : Str) = some .globalImplicit := by decide +kernel
theorem lk_law_pool : (defScope st_law).names.lookup ("pool" : Str) = some .local := by decide +kernel
theorem lk_law_script : (defScope st_law).names.lookup ("script" : Str) = some .local := by decide +kernel
theorem lk_law_settle_strike : (defScope st_law).names.lookup ("settle_strike" : Str) = some .globalImplicit := by decide +kernel
theorem lk_law_subject : (defScope st_law).names.lookup ("subject" : Str) = some .local := by decide +kernel
theorem lk_law_terms : (defScope st_law).names.lookup ("terms" : Str) = some .local := by decide +kernel
theorem lk_law_told : (defScope st_law).names.lookup ("told" : Str) = some .local := by decide +kernel
theorem lk_law_total_v : (defScope st_law).names.lookup ("total_v" : Str) = some .local := by decide +kernel
theorem lk_law_unit : (defScope st_law).names.lookup ("unit" : Str) = some .local := by decide +kernel
theorem lk_law_upholds_strike : (defScope st_law).names.lookup ("upholds_strike" : Str) = some .globalImplicit := by decide +kernel
theorem fnok_law (T : Txt K mg) {f : Addr} {fd : FuncData} (F : L2.Fun K "law" "law" st_law f fd) : FnOk P w K mg base (L2.CX P w) 11 f fd ["script"] (spF K mg 1 m_law) := by
  refine fn_ok (k := 10) (m := 11) (f := b_law) F sc_law rfl rfl fun H0 => ?_
  have h__law_pool : Cal ⟨P, w, K, mg, base, ["script", "pool", "drawn", "terms", "unit", "total_v", "subject", "due", "answers", "answer", "told", "paper"], defScope st_law, fun _ => true, 10, H0, []⟩ "_law_pool" 1 m__law_pool := (cal__law_pool T).cal (by decide)
  have h__law_strike : Cal ⟨P, w, K, mg, base, ["script", "pool", "drawn", "terms", "unit", "total_v", "subject", "due", "answers", "answer", "told", "paper"], defScope st_law, fun _ => true, 10, H0, []⟩ "_law_strike" 2 m__law_strike := (cal__law_strike T).cal (by decide)
  have h__law_total : Cal ⟨P, w, K, mg, base, ["script", "pool", "drawn", "terms", "unit", "total_v", "subject", "due", "answers", "answer", "told", "paper"], defScope st_law, fun _ => true, 10, H0, []⟩ "_law_total" 3 m__law_total := (cal__law_total T).cal (by decide)
  have h__law_subject : Cal ⟨P, w, K, mg, base, ["script", "pool", "drawn", "terms", "unit", "total_v", "subject", "due", "answers", "answer", "told", "paper"], defScope st_law, fun _ => true, 10, H0, []⟩ "_law_subject" 3 m__law_subject := (cal__law_subject T).cal (by decide)
  have h__law_due : Cal ⟨P, w, K, mg, base, ["script", "pool", "drawn", "terms", "unit", "total_v", "subject", "due", "answers", "answer", "told", "paper"], defScope st_law, fun _ => true, 10, H0, []⟩ "_law_due" 3 m__law_due := (cal__law_due T).cal (by decide)
  have h_upholds_strike : Cal ⟨P, w, K, mg, base, ["script", "pool", "drawn", "terms", "unit", "total_v", "subject", "due", "answers", "answer", "told", "paper"], defScope st_law, fun _ => true, 10, H0, []⟩ "upholds_strike" 2 m_upholds_strike := (cal_upholds_strike T).cal (by decide)
  have h__law_right : Cal ⟨P, w, K, mg, base, ["script", "pool", "drawn", "terms", "unit", "total_v", "subject", "due", "answers", "answer", "told", "paper"], defScope st_law, fun _ => true, 10, H0, []⟩ "_law_right" 4 m__law_right := (cal__law_right T).cal (by decide)
  have h_settle_strike : Cal ⟨P, w, K, mg, base, ["script", "pool", "drawn", "terms", "unit", "total_v", "subject", "due", "answers", "answer", "told", "paper"], defScope st_law, fun _ => true, 10, H0, []⟩ "settle_strike" 1 m_settle_strike := (cal_settle_strike T).cal (by decide)
  have h__law_yes_papers : Cal ⟨P, w, K, mg, base, ["script", "pool", "drawn", "terms", "unit", "total_v", "subject", "due", "answers", "answer", "told", "paper"], defScope st_law, fun _ => true, 10, H0, []⟩ "_law_yes_papers" 4 m__law_yes_papers := (cal__law_yes_papers T).cal (by decide)
  have h__law_no_papers : Cal ⟨P, w, K, mg, base, ["script", "pool", "drawn", "terms", "unit", "total_v", "subject", "due", "answers", "answer", "told", "paper"], defScope st_law, fun _ => true, 10, H0, []⟩ "_law_no_papers" 4 m__law_no_papers := (cal__law_no_papers T).cal (by decide)
  exact (ss_cons (s_set ⟨nd_law, rfl, Or.inl lk_law_pool, Or.inl rfl⟩ (e_call h__law_pool (a_cons (e_var (i := 0) rfl (Or.inl lk_law_script)) a_nil) lk_law__law_pool)) (ss_cons (s_set ⟨nd_law, rfl, Or.inl lk_law_drawn, Or.inl rfl⟩ (e_call h__law_strike (a_cons (e_var (i := 1) rfl (Or.inl lk_law_pool)) (a_cons e_int a_nil)) lk_law__law_strike)) (ss_cons (s_set ⟨nd_law, rfl, Or.inl lk_law_terms, Or.inl rfl⟩ (e_ix (e_var (i := 2) rfl (Or.inl lk_law_drawn)) e_int)) (ss_cons (s_set ⟨nd_law, rfl, Or.inl lk_law_unit, Or.inl rfl⟩ (e_ix (e_var (i := 2) rfl (Or.inl lk_law_drawn)) e_int)) (ss_cons (s_set ⟨nd_law, rfl, Or.inl lk_law_total_v, Or.inl rfl⟩ (e_call h__law_total (a_cons (e_var (i := 1) rfl (Or.inl lk_law_pool)) (a_cons e_int (a_cons (e_var (i := 3) rfl (Or.inl lk_law_terms)) a_nil))) lk_law__law_total)) (ss_cons (s_set ⟨nd_law, rfl, Or.inl lk_law_subject, Or.inl rfl⟩ (e_call h__law_subject (a_cons (e_var (i := 3) rfl (Or.inl lk_law_terms)) (a_cons (e_var (i := 5) rfl (Or.inl lk_law_total_v)) (a_cons (e_var (i := 4) rfl (Or.inl lk_law_unit)) a_nil))) lk_law__law_subject)) (ss_cons (s_set ⟨nd_law, rfl, Or.inl lk_law_due, Or.inl rfl⟩ (e_call h__law_due (a_cons (e_var (i := 3) rfl (Or.inl lk_law_terms)) (a_cons (e_var (i := 5) rfl (Or.inl lk_law_total_v)) (a_cons (e_var (i := 4) rfl (Or.inl lk_law_unit)) a_nil))) lk_law__law_due)) (ss_cons (s_if (t_w (w_or (t_cmp (fun _ A => o_isnot A) (e_call h_upholds_strike (a_cons (e_var (i := 6) rfl (Or.inl lk_law_subject)) (a_cons (e_call h_settle_strike (a_cons (e_var (i := 6) rfl (Or.inl lk_law_subject)) a_nil) lk_law_settle_strike) a_nil)) lk_law_upholds_strike) e_bl) (w_or1 (t_cmp (fun _ A => o_ne A) (e_ix (e_call h_settle_strike (a_cons (e_var (i := 6) rfl (Or.inl lk_law_subject)) a_nil) lk_law_settle_strike) e_int) (e_ix (e_var (i := 7) rfl (Or.inl lk_law_due)) e_int))))) (ss_one (s_ret e_bl)) ss_nil) (ss_cons (s_set ⟨nd_law, rfl, Or.inl lk_law_answers, Or.inl rfl⟩ (e_lst (a_cons (e_var (i := 7) rfl (Or.inl lk_law_due)) (a_cons (e_tup (a_cons e_str (a_cons (e_ix (e_var (i := 7) rfl (Or.inl lk_law_due)) e_int) a_nil))) (a_cons (e_tup (a_cons e_str (a_cons (e_ix (e_var (i := 7) rfl (Or.inl lk_law_due)) e_int) a_nil))) (a_cons (e_cty (fun _ A => c_list A) T.no_list rfl (a_cons (e_var (i := 7) rfl (Or.inl lk_law_due)) a_nil) lk_law_list) (a_cons (e_bin (fun _ A => o_add A) (e_var (i := 7) rfl (Or.inl lk_law_due)) (e_tup (a_cons e_int a_nil))) (a_cons e_non (a_cons e_str (a_cons e_int (a_cons (e_tup (a_cons e_bl (a_cons (e_ix (e_var (i := 7) rfl (Or.inl lk_law_due)) e_int) a_nil))) (a_cons (e_sl (e_var (i := 7) rfl (Or.inl lk_law_due)) p_no (p_so e_int)) a_nil)))))))))))) (ss_cons (s_set ⟨nd_law, rfl, Or.inl lk_law_answers, Or.inl rfl⟩ (e_bin (fun _ A => o_add A) (e_var (i := 8) rfl (Or.inl lk_law_answers)) (e_lc (own := [("paper", 11)]) nd_law (by dsimp only; decide +kernel) rfl rfl (i_val (e_call h__law_yes_papers (a_cons (e_var (i := 1) rfl (Or.inl lk_law_pool)) (a_cons (e_var (i := 3) rfl (Or.inl lk_law_terms)) (a_cons (e_var (i := 5) rfl (Or.inl lk_law_total_v)) (a_cons (e_var (i := 4) rfl (Or.inl lk_law_unit)) a_nil)))) lk_law__law_yes_papers)) (fun _ => (g_nm ⟨nd_law, rfl, (by first | exact Or.inl rfl | exact Or.inr rfl), (by first | exact Or.inl rfl | exact Or.inr rfl)⟩)) (fun _ => ts_no) (fun _ => (e_tup (a_cons e_str (a_cons (e_var (i := 11) rfl ) a_nil))))))) (ss_cons (s_set ⟨nd_law, rfl, Or.inl lk_law_answers, Or.inl rfl⟩ (e_bin (fun _ A => o_add A) (e_var (i := 8) rfl (Or.inl lk_law_answers)) (e_lc (own := [("paper", 11)]) nd_law (by dsimp only; decide +kernel) rfl rfl (i_val (e_call h__law_no_papers (a_cons (e_var (i := 1) rfl (Or.inl lk_law_pool)) (a_cons (e_var (i := 3) rfl (Or.inl lk_law_terms)) (a_cons (e_var (i := 5) rfl (Or.inl lk_law_total_v)) (a_cons (e_var (i := 4) rfl (Or.inl lk_law_unit)) a_nil)))) lk_law__law_no_papers)) (fun _ => (g_nm ⟨nd_law, rfl, (by first | exact Or.inl rfl | exact Or.inr rfl), (by first | exact Or.inl rfl | exact Or.inr rfl)⟩)) (fun _ => ts_no) (fun _ => (e_tup (a_cons e_str (a_cons (e_var (i := 11) rfl ) a_nil))))))) (ss_cons (s_for (i_val (e_var (i := 8) rfl (Or.inl lk_law_answers))) (g_nm ⟨nd_law, rfl, Or.inl lk_law_answer, Or.inl rfl⟩) (ss_cons (s_set ⟨nd_law, rfl, Or.inl lk_law_told, Or.inl rfl⟩ (e_call h_upholds_strike (a_cons (e_var (i := 6) rfl (Or.inl lk_law_subject)) (a_cons (e_var (i := 9) rfl (Or.inl lk_law_answer)) a_nil)) lk_law_upholds_strike)) (ss_cons (s_if (t_w (w_and (t_cmp (fun _ A => o_isnot A) (e_var (i := 10) rfl (Or.inl lk_law_told)) e_bl) (w_and1 (t_cmp (fun _ A => o_isnot A) (e_var (i := 10) rfl (Or.inl lk_law_told)) e_bl)))) (ss_one (s_ret e_bl)) ss_nil) (ss_cons (s_if (t_cmp (fun _ A => o_ne A) (e_var (i := 10) rfl (Or.inl lk_law_told)) (e_call h__law_right (a_cons (e_var (i := 3) rfl (Or.inl lk_law_terms)) (a_cons (e_var (i := 5) rfl (Or.inl lk_law_total_v)) (a_cons (e_var (i := 4) rfl (Or.inl lk_law_unit)) (a_cons (e_var (i := 9) rfl (Or.inl lk_law_answer)) a_nil)))) lk_law__law_right)) (ss_one (s_ret e_bl)) ss_nil) (ss_one (s_if (t_w (w_and (t_tru (e_var (i := 10) rfl (Or.inl lk_law_told))) (w_and1 (t_cmp (fun _ A => o_ne A) (e_ix (e_var (i := 9) rfl (Or.inl lk_law_answer)) e_int) (e_ix (e_var (i := 7) rfl (Or.inl lk_law_due)) e_int))))) (ss_one (s_ret e_bl)) ss_nil)))))) (ss_one (s_ret e_bl))))))))))))))
end
theorem all_mk {l : PySem.W.OpenLaw} {w : World} {K : PySem.W.Frag} {h : Heap} {mg : Str → Option Value} {fa : Addr} (X : K.In h) (G : h.Ns mainGlobals mg) (hfa : mg "law" = some (.ref fa)) (hF : ∀ ns : List Int, ns.length ≤ 63 → m_law [.scr ns] = .ok (.v (.bl true)))
    {C_BadRatio : Addr} {C_BadStrike : Addr} {t_GREATEST_BOTTOM : Tok} {t_GREATEST_TOP : Tok} {t_MOST_READINGS : Tok} {t_MOST_TERMS : Tok} {A_ZERO : Addr} {n_ZERO : Nat} {sl_ZERO : Array (Option Value)} {t_ZERO_0 : Tok} {t_ZERO_1 : Tok} {f__law_pool : Addr} {oc__law_pool : Value} {kV__law_pool : Value} {dc__law_pool : Value} {pm__law_pool : Value} {cd__law_pool : Value} {ct__law_pool : Value} {od__law_pool : Option Addr} {an__law_pool : Option Addr} {sl__law_pool : Array (Option Value)} {f__law_at : Addr} {oc__law_at : Value} {kV__law_at : Value} {dc__law_at : Value} {pm__law_at : Value} {cd__law_at : Value} {ct__law_at : Value} {od__law_at : Option Addr} {an__law_at : Option Addr} {sl__law_at : Array (Option Value)} {f__law_strike : Addr} {oc__law_strike : Value} {kV__law_strike : Value} {dc__law_strike : Value} {pm__law_strike : Value} {cd__law_strike : Value} {ct__law_strike : Value} {od__law_strike : Option Addr} {an__law_strike : Option Addr} {sl__law_strike : Array (Option Value)} {f__law_meet : Addr} {oc__law_meet : Value} {kV__law_meet : Value} {dc__law_meet : Value} {pm__law_meet : Value} {cd__law_meet : Value} {ct__law_meet : Value} {od__law_meet : Option Addr} {an__law_meet : Option Addr} {sl__law_meet : Array (Option Value)} {f__law_ends : Addr} {oc__law_ends : Value} {kV__law_ends : Value} {dc__law_ends : Value} {pm__law_ends : Value} {cd__law_ends : Value} {ct__law_ends : Value} {od__law_ends : Option Addr} {an__law_ends : Option Addr} {sl__law_ends : Array (Option Value)} {f__law_total : Addr} {oc__law_total : Value} {kV__law_total : Value} {dc__law_total : Value} {pm__law_total : Value} {cd__law_total : Value} {ct__law_total : Value} {od__law_total : Option Addr} {an__law_total : Option Addr} {sl__law_total : Array (Option Value)} {f__law_ratio : Addr} {oc__law_ratio : Value} {kV__law_ratio : Value} {dc__law_ratio : Value} {pm__law_ratio : Value} {cd__law_ratio : Value} {ct__law_ratio : Value} {od__law_ratio : Option Addr} {an__law_ratio : Option Addr} {sl__law_ratio : Array (Option Value)} {f__law_as_reading : Addr} {oc__law_as_reading : Value} {kV__law_as_reading : Value} {dc__law_as_reading : Value} {pm__law_as_reading : Value} {cd__law_as_reading : Value} {ct__law_as_reading : Value} {od__law_as_reading : Option Addr} {an__law_as_reading : Option Addr} {sl__law_as_reading : Array (Option Value)} {f__law_subject : Addr} {oc__law_subject : Value} {kV__law_subject : Value} {dc__law_subject : Value} {pm__law_subject : Value} {cd__law_subject : Value} {ct__law_subject : Value} {od__law_subject : Option Addr} {an__law_subject : Option Addr} {sl__law_subject : Array (Option Value)} {f__law_apart : Addr} {oc__law_apart : Value} {kV__law_apart : Value} {dc__law_apart : Value} {pm__law_apart : Value} {cd__law_apart : Value} {ct__law_apart : Value} {od__law_apart : Option Addr} {an__law_apart : Option Addr} {sl__law_apart : Array (Option Value)} {f__law_values : Addr} {oc__law_values : Value} {kV__law_values : Value} {dc__law_values : Value} {pm__law_values : Value} {cd__law_values : Value} {ct__law_values : Value} {od__law_values : Option Addr} {an__law_values : Option Addr} {sl__law_values : Array (Option Value)} {f__law_due : Addr} {oc__law_due : Value} {kV__law_due : Value} {dc__law_due : Value} {pm__law_due : Value} {cd__law_due : Value} {ct__law_due : Value} {od__law_due : Option Addr} {an__law_due : Option Addr} {sl__law_due : Array (Option Value)} {f_is_tuple_of : Addr} {oc_is_tuple_of : Value} {kV_is_tuple_of : Value} {dc_is_tuple_of : Value} {pm_is_tuple_of : Value} {cd_is_tuple_of : Value} {ct_is_tuple_of : Value} {od_is_tuple_of : Option Addr} {an_is_tuple_of : Option Addr} {sl_is_tuple_of : Array (Option Value)} {f_is_whole : Addr} {oc_is_whole : Value} {kV_is_whole : Value} {dc_is_whole : Value} {pm_is_whole : Value} {cd_is_whole : Value} {ct_is_whole : Value} {od_is_whole : Option Addr} {an_is_whole : Option Addr} {sl_is_whole : Array (Option Value)} {f_is_ratio : Addr} {oc_is_ratio : Value} {kV_is_ratio : Value} {dc_is_ratio : Value} {pm_is_ratio : Value} {cd_is_ratio : Value} {ct_is_ratio : Value} {od_is_ratio : Option Addr} {an_is_ratio : Option Addr} {sl_is_ratio : Array (Option Value)} {f_check_ratio : Addr} {oc_check_ratio : Value} {kV_check_ratio : Value} {dc_check_ratio : Value} {pm_check_ratio : Value} {cd_check_ratio : Value} {ct_check_ratio : Value} {od_check_ratio : Option Addr} {an_check_ratio : Option Addr} {sl_check_ratio : Array (Option Value)} {f_compare : Addr} {oc_compare : Value} {kV_compare : Value} {dc_compare : Value} {pm_compare : Value} {cd_compare : Value} {ct_compare : Value} {od_compare : Option Addr} {an_compare : Option Addr} {sl_compare : Array (Option Value)} {f_is_small_ratio : Addr} {oc_is_small_ratio : Value} {kV_is_small_ratio : Value} {dc_is_small_ratio : Value} {pm_is_small_ratio : Value} {cd_is_small_ratio : Value} {ct_is_small_ratio : Value} {od_is_small_ratio : Option Addr} {an_is_small_ratio : Option Addr} {sl_is_small_ratio : Array (Option Value)} {f_is_reading : Addr} {oc_is_reading : Value} {kV_is_reading : Value} {dc_is_reading : Value} {pm_is_reading : Value} {cd_is_reading : Value} {ct_is_reading : Value} {od_is_reading : Option Addr} {an_is_reading : Option Addr} {sl_is_reading : Array (Option Value)} {f_are_readings : Addr} {oc_are_readings : Value} {kV_are_readings : Value} {dc_are_readings : Value} {pm_are_readings : Value} {cd_are_readings : Value} {ct_are_readings : Value} {od_are_readings : Option Addr} {an_are_readings : Option Addr} {sl_are_readings : Array (Option Value)} {f_is_term : Addr} {oc_is_term : Value} {kV_is_term : Value} {dc_is_term : Value} {pm_is_term : Value} {cd_is_term : Value} {ct_is_term : Value} {od_is_term : Option Addr} {an_is_term : Option Addr} {sl_is_term : Array (Option Value)} {f_check_strike : Addr} {oc_check_strike : Value} {kV_check_strike : Value} {dc_check_strike : Value} {pm_check_strike : Value} {cd_check_strike : Value} {ct_check_strike : Value} {od_check_strike : Option Addr} {an_check_strike : Option Addr} {sl_check_strike : Array (Option Value)} {f_ratio : Addr} {oc_ratio : Value} {kV_ratio : Value} {dc_ratio : Value} {pm_ratio : Value} {cd_ratio : Value} {ct_ratio : Value} {od_ratio : Option Addr} {an_ratio : Option Addr} {sl_ratio : Array (Option Value)} {f_plus : Addr} {oc_plus : Value} {kV_plus : Value} {dc_plus : Value} {pm_plus : Value} {cd_plus : Value} {ct_plus : Value} {od_plus : Option Addr} {an_plus : Option Addr} {sl_plus : Array (Option Value)} {f_total : Addr} {oc_total : Value} {kV_total : Value} {dc_total : Value} {pm_total : Value} {cd_total : Value} {ct_total : Value} {od_total : Option Addr} {an_total : Option Addr} {sl_total : Array (Option Value)} {f_sums : Addr} {oc_sums : Value} {kV_sums : Value} {dc_sums : Value} {pm_sums : Value} {cd_sums : Value} {ct_sums : Value} {od_sums : Option Addr} {an_sums : Option Addr} {sl_sums : Array (Option Value)} {f_is_whole_in : Addr} {oc_is_whole_in : Value} {kV_is_whole_in : Value} {dc_is_whole_in : Value} {pm_is_whole_in : Value} {cd_is_whole_in : Value} {ct_is_whole_in : Value} {od_is_whole_in : Option Addr} {an_is_whole_in : Option Addr} {sl_is_whole_in : Array (Option Value)} {f_names_apart : Addr} {oc_names_apart : Value} {kV_names_apart : Value} {dc_names_apart : Value} {pm_names_apart : Value} {cd_names_apart : Value} {ct_names_apart : Value} {od_names_apart : Option Addr} {an_names_apart : Option Addr} {sl_names_apart : Array (Option Value)} {f_larger : Addr} {oc_larger : Value} {kV_larger : Value} {dc_larger : Value} {pm_larger : Value} {cd_larger : Value} {ct_larger : Value} {od_larger : Option Addr} {an_larger : Option Addr} {sl_larger : Array (Option Value)} {f_greatest_low : Addr} {oc_greatest_low : Value} {kV_greatest_low : Value} {dc_greatest_low : Value} {pm_greatest_low : Value} {cd_greatest_low : Value} {ct_greatest_low : Value} {od_greatest_low : Option Addr} {an_greatest_low : Option Addr} {sl_greatest_low : Array (Option Value)} {f_lesser : Addr} {oc_lesser : Value} {kV_lesser : Value} {dc_lesser : Value} {pm_lesser : Value} {cd_lesser : Value} {ct_lesser : Value} {od_lesser : Option Addr} {an_lesser : Option Addr} {sl_lesser : Array (Option Value)} {f_least_high : Addr} {oc_least_high : Value} {kV_least_high : Value} {dc_least_high : Value} {pm_least_high : Value} {cd_least_high : Value} {ct_least_high : Value} {od_least_high : Option Addr} {an_least_high : Option Addr} {sl_least_high : Array (Option Value)} {f_are_apart : Addr} {oc_are_apart : Value} {kV_are_apart : Value} {dc_are_apart : Value} {pm_are_apart : Value} {cd_are_apart : Value} {ct_are_apart : Value} {od_are_apart : Option Addr} {an_are_apart : Option Addr} {sl_are_apart : Array (Option Value)} {f_any_apart : Addr} {oc_any_apart : Value} {kV_any_apart : Value} {dc_any_apart : Value} {pm_any_apart : Value} {cd_any_apart : Value} {ct_any_apart : Value} {od_any_apart : Option Addr} {an_any_apart : Option Addr} {sl_any_apart : Array (Option Value)} {f_minus : Addr} {oc_minus : Value} {kV_minus : Value} {dc_minus : Value} {pm_minus : Value} {cd_minus : Value} {ct_minus : Value} {od_minus : Option Addr} {an_minus : Option Addr} {sl_minus : Array (Option Value)} {f_signed_bounds : Addr} {oc_signed_bounds : Value} {kV_signed_bounds : Value} {dc_signed_bounds : Value} {pm_signed_bounds : Value} {cd_signed_bounds : Value} {ct_signed_bounds : Value} {od_signed_bounds : Option Addr} {an_signed_bounds : Option Addr} {sl_signed_bounds : Array (Option Value)} {f_is_unsound : Addr} {oc_is_unsound : Value} {kV_is_unsound : Value} {dc_is_unsound : Value} {pm_is_unsound : Value} {cd_is_unsound : Value} {ct_is_unsound : Value} {od_is_unsound : Option Addr} {an_is_unsound : Option Addr} {sl_is_unsound : Array (Option Value)} {f_is_answer : Addr} {oc_is_answer : Value} {kV_is_answer : Value} {dc_is_answer : Value} {pm_is_answer : Value} {cd_is_answer : Value} {ct_is_answer : Value} {od_is_answer : Option Addr} {an_is_answer : Option Addr} {sl_is_answer : Array (Option Value)} {f_lies_in : Addr} {oc_lies_in : Value} {kV_lies_in : Value} {dc_lies_in : Value} {pm_lies_in : Value} {cd_lies_in : Value} {ct_lies_in : Value} {od_lies_in : Option Addr} {an_lies_in : Option Addr} {sl_lies_in : Array (Option Value)} {f_times : Addr} {oc_times : Value} {kV_times : Value} {dc_times : Value} {pm_times : Value} {cd_times : Value} {ct_times : Value} {od_times : Option Addr} {an_times : Option Addr} {sl_times : Array (Option Value)} {f_with_signs : Addr} {oc_with_signs : Value} {kV_with_signs : Value} {dc_with_signs : Value} {pm_with_signs : Value} {cd_with_signs : Value} {ct_with_signs : Value} {od_with_signs : Option Addr} {an_with_signs : Option Addr} {sl_with_signs : Array (Option Value)} {f_are_measures : Addr} {oc_are_measures : Value} {kV_are_measures : Value} {dc_are_measures : Value} {pm_are_measures : Value} {cd_are_measures : Value} {ct_are_measures : Value} {od_are_measures : Option Addr} {an_are_measures : Option Addr} {sl_are_measures : Array (Option Value)} {f_upholds_strike : Addr} {oc_upholds_strike : Value} {kV_upholds_strike : Value} {dc_upholds_strike : Value} {pm_upholds_strike : Value} {cd_upholds_strike : Value} {ct_upholds_strike : Value} {od_upholds_strike : Option Addr} {an_upholds_strike : Option Addr} {sl_upholds_strike : Array (Option Value)} {f__law_is_whole : Addr} {oc__law_is_whole : Value} {kV__law_is_whole : Value} {dc__law_is_whole : Value} {pm__law_is_whole : Value} {cd__law_is_whole : Value} {ct__law_is_whole : Value} {od__law_is_whole : Option Addr} {an__law_is_whole : Option Addr} {sl__law_is_whole : Array (Option Value)} {f__law_parts : Addr} {oc__law_parts : Value} {kV__law_parts : Value} {dc__law_parts : Value} {pm__law_parts : Value} {cd__law_parts : Value} {ct__law_parts : Value} {od__law_parts : Option Addr} {an__law_parts : Option Addr} {sl__law_parts : Array (Option Value)} {f__law_yes : Addr} {oc__law_yes : Value} {kV__law_yes : Value} {dc__law_yes : Value} {pm__law_yes : Value} {cd__law_yes : Value} {ct__law_yes : Value} {od__law_yes : Option Addr} {an__law_yes : Option Addr} {sl__law_yes : Array (Option Value)} {f__law_names_apart : Addr} {oc__law_names_apart : Value} {kV__law_names_apart : Value} {dc__law_names_apart : Value} {pm__law_names_apart : Value} {cd__law_names_apart : Value} {ct__law_names_apart : Value} {od__law_names_apart : Option Addr} {an__law_names_apart : Option Addr} {sl__law_names_apart : Array (Option Value)} {f__law_no : Addr} {oc__law_no : Value} {kV__law_no : Value} {dc__law_no : Value} {pm__law_no : Value} {cd__law_no : Value} {ct__law_no : Value} {od__law_no : Option Addr} {an__law_no : Option Addr} {sl__law_no : Array (Option Value)} {f__law_right : Addr} {oc__law_right : Value} {kV__law_right : Value} {dc__law_right : Value} {pm__law_right : Value} {cd__law_right : Value} {ct__law_right : Value} {od__law_right : Option Addr} {an__law_right : Option Addr} {sl__law_right : Array (Option Value)} {f_first_apart : Addr} {oc_first_apart : Value} {kV_first_apart : Value} {dc_first_apart : Value} {pm_first_apart : Value} {cd_first_apart : Value} {ct_first_apart : Value} {od_first_apart : Option Addr} {an_first_apart : Option Addr} {sl_first_apart : Array (Option Value)} {f_raised_values : Addr} {oc_raised_values : Value} {kV_raised_values : Value} {dc_raised_values : Value} {pm_raised_values : Value} {cd_raised_values : Value} {ct_raised_values : Value} {od_raised_values : Option Addr} {an_raised_values : Option Addr} {sl_raised_values : Array (Option Value)} {f_settle_strike : Addr} {oc_settle_strike : Value} {kV_settle_strike : Value} {dc_settle_strike : Value} {pm_settle_strike : Value} {cd_settle_strike : Value} {ct_settle_strike : Value} {od_settle_strike : Option Addr} {an_settle_strike : Option Addr} {sl_settle_strike : Array (Option Value)} {f__law_yes_papers : Addr} {oc__law_yes_papers : Value} {kV__law_yes_papers : Value} {dc__law_yes_papers : Value} {pm__law_yes_papers : Value} {cd__law_yes_papers : Value} {ct__law_yes_papers : Value} {od__law_yes_papers : Option Addr} {an__law_yes_papers : Option Addr} {sl__law_yes_papers : Array (Option Value)} {f__law_no_papers : Addr} {oc__law_no_papers : Value} {kV__law_no_papers : Value} {dc__law_no_papers : Value} {pm__law_no_papers : Value} {cd__law_no_papers : Value} {ct__law_no_papers : Value} {od__law_no_papers : Option Addr} {an__law_no_papers : Option Addr} {sl__law_no_papers : Array (Option Value)} {f_law : Addr} {oc_law : Value} {kV_law : Value} {dc_law : Value} {pm_law : Value} {cd_law : Value} {ct_law : Value} {od_law : Option Addr} {an_law : Option Addr} {sl_law : Array (Option Value)}
    (g_BadRatio : PySem.W.nsIn K mainGlobals "BadRatio" = some (some (.ref C_BadRatio)))
    (s_BadRatio : PySem.W.subIn K (.ref C_BadRatio) (.type "BaseException") = some true)
    (t_BadRatio : PySem.W.typeIn K (.ref C_BadRatio) = some (.type "type"))
    (e_BadRatio : PySem.W.excIn K C_BadRatio [.type "ValueError", .type "Exception", .type "BaseException", .type "object"] "ValueError.__new__" = true)
    (k_BadRatio : PySem.W.keepIn K (.ref C_BadRatio) = true)
    (g_BadStrike : PySem.W.nsIn K mainGlobals "BadStrike" = some (some (.ref C_BadStrike)))
    (s_BadStrike : PySem.W.subIn K (.ref C_BadStrike) (.type "BaseException") = some true)
    (t_BadStrike : PySem.W.typeIn K (.ref C_BadStrike) = some (.type "type"))
    (e_BadStrike : PySem.W.excIn K C_BadStrike [.type "ValueError", .type "Exception", .type "BaseException", .type "object"] "ValueError.__new__" = true)
    (k_BadStrike : PySem.W.keepIn K (.ref C_BadStrike) = true)
    (v_GREATEST_BOTTOM : PySem.W.nsIn K mainGlobals "GREATEST_BOTTOM" = some (some (.int 1000 t_GREATEST_BOTTOM)))
    (v_GREATEST_TOP : PySem.W.nsIn K mainGlobals "GREATEST_TOP" = some (some (.int 1000000 t_GREATEST_TOP)))
    (v_MOST_READINGS : PySem.W.nsIn K mainGlobals "MOST_READINGS" = some (some (.int 4 t_MOST_READINGS)))
    (v_MOST_TERMS : PySem.W.nsIn K mainGlobals "MOST_TERMS" = some (some (.int 6 t_MOST_TERMS)))
    (v_ZERO : PySem.W.nsIn K mainGlobals "ZERO" = some (some (.ref A_ZERO)))
    (w_ZERO : K.lookup A_ZERO = some ⟨.type "tuple", none, .seq #[.int 0 t_ZERO_0, .int 1 t_ZERO_1] n_ZERO, sl_ZERO⟩)
    (u_gcd : PySem.W.nsIn K mainGlobals "gcd" = some (some (.builtin "math.gcd")))
    (n_abs : PySem.W.nsIn K mainGlobals "abs" = some none)
    (n_all : PySem.W.nsIn K mainGlobals "all" = some none)
    (n_any : PySem.W.nsIn K mainGlobals "any" = some none)
    (n_bool : PySem.W.nsIn K mainGlobals "bool" = some none)
    (n_enumerate : PySem.W.nsIn K mainGlobals "enumerate" = some none)
    (n_int : PySem.W.nsIn K mainGlobals "int" = some none)
    (n_isinstance : PySem.W.nsIn K mainGlobals "isinstance" = some none)
    (n_len : PySem.W.nsIn K mainGlobals "len" = some none)
    (n_list : PySem.W.nsIn K mainGlobals "list" = some none)
    (n_max : PySem.W.nsIn K mainGlobals "max" = some none)
    (n_min : PySem.W.nsIn K mainGlobals "min" = some none)
    (n_range : PySem.W.nsIn K mainGlobals "range" = some none)
    (n_str : PySem.W.nsIn K mainGlobals "str" = some none)
    (n_sum : PySem.W.nsIn K mainGlobals "sum" = some none)
    (n_tuple : PySem.W.nsIn K mainGlobals "tuple" = some none)
    (n_zip : PySem.W.nsIn K mainGlobals "zip" = some none)
    (a__law_pool : PySem.W.nsIn K mainGlobals "_law_pool" = some (some (.ref f__law_pool)))
    (l__law_pool : K.lookup f__law_pool = some ⟨oc__law_pool, od__law_pool, .func (PySem.W.fnOf "_law_pool" "_law_pool" (defArgs st__law_pool) (defBody st__law_pool) (defScope st__law_pool) .none kV__law_pool dc__law_pool pm__law_pool an__law_pool cd__law_pool ct__law_pool), sl__law_pool⟩)
    (c__law_pool : PySem.W.codeIn K cd__law_pool "_law_pool" = true)
    (k__law_pool : PySem.W.keepIn K (.ref f__law_pool) = true)
    (a__law_at : PySem.W.nsIn K mainGlobals "_law_at" = some (some (.ref f__law_at)))
    (l__law_at : K.lookup f__law_at = some ⟨oc__law_at, od__law_at, .func (PySem.W.fnOf "_law_at" "_law_at" (defArgs st__law_at) (defBody st__law_at) (defScope st__law_at) .none kV__law_at dc__law_at pm__law_at an__law_at cd__law_at ct__law_at), sl__law_at⟩)
    (c__law_at : PySem.W.codeIn K cd__law_at "_law_at" = true)
    (k__law_at : PySem.W.keepIn K (.ref f__law_at) = true)
    (a__law_strike : PySem.W.nsIn K mainGlobals "_law_strike" = some (some (.ref f__law_strike)))
    (l__law_strike : K.lookup f__law_strike = some ⟨oc__law_strike, od__law_strike, .func (PySem.W.fnOf "_law_strike" "_law_strike" (defArgs st__law_strike) (defBody st__law_strike) (defScope st__law_strike) .none kV__law_strike dc__law_strike pm__law_strike an__law_strike cd__law_strike ct__law_strike), sl__law_strike⟩)
    (c__law_strike : PySem.W.codeIn K cd__law_strike "_law_strike" = true)
    (k__law_strike : PySem.W.keepIn K (.ref f__law_strike) = true)
    (a__law_meet : PySem.W.nsIn K mainGlobals "_law_meet" = some (some (.ref f__law_meet)))
    (l__law_meet : K.lookup f__law_meet = some ⟨oc__law_meet, od__law_meet, .func (PySem.W.fnOf "_law_meet" "_law_meet" (defArgs st__law_meet) (defBody st__law_meet) (defScope st__law_meet) .none kV__law_meet dc__law_meet pm__law_meet an__law_meet cd__law_meet ct__law_meet), sl__law_meet⟩)
    (c__law_meet : PySem.W.codeIn K cd__law_meet "_law_meet" = true)
    (k__law_meet : PySem.W.keepIn K (.ref f__law_meet) = true)
    (a__law_ends : PySem.W.nsIn K mainGlobals "_law_ends" = some (some (.ref f__law_ends)))
    (l__law_ends : K.lookup f__law_ends = some ⟨oc__law_ends, od__law_ends, .func (PySem.W.fnOf "_law_ends" "_law_ends" (defArgs st__law_ends) (defBody st__law_ends) (defScope st__law_ends) .none kV__law_ends dc__law_ends pm__law_ends an__law_ends cd__law_ends ct__law_ends), sl__law_ends⟩)
    (c__law_ends : PySem.W.codeIn K cd__law_ends "_law_ends" = true)
    (k__law_ends : PySem.W.keepIn K (.ref f__law_ends) = true)
    (a__law_total : PySem.W.nsIn K mainGlobals "_law_total" = some (some (.ref f__law_total)))
    (l__law_total : K.lookup f__law_total = some ⟨oc__law_total, od__law_total, .func (PySem.W.fnOf "_law_total" "_law_total" (defArgs st__law_total) (defBody st__law_total) (defScope st__law_total) .none kV__law_total dc__law_total pm__law_total an__law_total cd__law_total ct__law_total), sl__law_total⟩)
    (c__law_total : PySem.W.codeIn K cd__law_total "_law_total" = true)
    (k__law_total : PySem.W.keepIn K (.ref f__law_total) = true)
    (a__law_ratio : PySem.W.nsIn K mainGlobals "_law_ratio" = some (some (.ref f__law_ratio)))
    (l__law_ratio : K.lookup f__law_ratio = some ⟨oc__law_ratio, od__law_ratio, .func (PySem.W.fnOf "_law_ratio" "_law_ratio" (defArgs st__law_ratio) (defBody st__law_ratio) (defScope st__law_ratio) .none kV__law_ratio dc__law_ratio pm__law_ratio an__law_ratio cd__law_ratio ct__law_ratio), sl__law_ratio⟩)
    (c__law_ratio : PySem.W.codeIn K cd__law_ratio "_law_ratio" = true)
    (k__law_ratio : PySem.W.keepIn K (.ref f__law_ratio) = true)
    (a__law_as_reading : PySem.W.nsIn K mainGlobals "_law_as_reading" = some (some (.ref f__law_as_reading)))
    (l__law_as_reading : K.lookup f__law_as_reading = some ⟨oc__law_as_reading, od__law_as_reading, .func (PySem.W.fnOf "_law_as_reading" "_law_as_reading" (defArgs st__law_as_reading) (defBody st__law_as_reading) (defScope st__law_as_reading) .none kV__law_as_reading dc__law_as_reading pm__law_as_reading an__law_as_reading cd__law_as_reading ct__law_as_reading), sl__law_as_reading⟩)
    (c__law_as_reading : PySem.W.codeIn K cd__law_as_reading "_law_as_reading" = true)
    (k__law_as_reading : PySem.W.keepIn K (.ref f__law_as_reading) = true)
    (a__law_subject : PySem.W.nsIn K mainGlobals "_law_subject" = some (some (.ref f__law_subject)))
    (l__law_subject : K.lookup f__law_subject = some ⟨oc__law_subject, od__law_subject, .func (PySem.W.fnOf "_law_subject" "_law_subject" (defArgs st__law_subject) (defBody st__law_subject) (defScope st__law_subject) .none kV__law_subject dc__law_subject pm__law_subject an__law_subject cd__law_subject ct__law_subject), sl__law_subject⟩)
    (c__law_subject : PySem.W.codeIn K cd__law_subject "_law_subject" = true)
    (k__law_subject : PySem.W.keepIn K (.ref f__law_subject) = true)
    (a__law_apart : PySem.W.nsIn K mainGlobals "_law_apart" = some (some (.ref f__law_apart)))
    (l__law_apart : K.lookup f__law_apart = some ⟨oc__law_apart, od__law_apart, .func (PySem.W.fnOf "_law_apart" "_law_apart" (defArgs st__law_apart) (defBody st__law_apart) (defScope st__law_apart) .none kV__law_apart dc__law_apart pm__law_apart an__law_apart cd__law_apart ct__law_apart), sl__law_apart⟩)
    (c__law_apart : PySem.W.codeIn K cd__law_apart "_law_apart" = true)
    (k__law_apart : PySem.W.keepIn K (.ref f__law_apart) = true)
    (a__law_values : PySem.W.nsIn K mainGlobals "_law_values" = some (some (.ref f__law_values)))
    (l__law_values : K.lookup f__law_values = some ⟨oc__law_values, od__law_values, .func (PySem.W.fnOf "_law_values" "_law_values" (defArgs st__law_values) (defBody st__law_values) (defScope st__law_values) .none kV__law_values dc__law_values pm__law_values an__law_values cd__law_values ct__law_values), sl__law_values⟩)
    (c__law_values : PySem.W.codeIn K cd__law_values "_law_values" = true)
    (k__law_values : PySem.W.keepIn K (.ref f__law_values) = true)
    (a__law_due : PySem.W.nsIn K mainGlobals "_law_due" = some (some (.ref f__law_due)))
    (l__law_due : K.lookup f__law_due = some ⟨oc__law_due, od__law_due, .func (PySem.W.fnOf "_law_due" "_law_due" (defArgs st__law_due) (defBody st__law_due) (defScope st__law_due) .none kV__law_due dc__law_due pm__law_due an__law_due cd__law_due ct__law_due), sl__law_due⟩)
    (c__law_due : PySem.W.codeIn K cd__law_due "_law_due" = true)
    (k__law_due : PySem.W.keepIn K (.ref f__law_due) = true)
    (a_is_tuple_of : PySem.W.nsIn K mainGlobals "is_tuple_of" = some (some (.ref f_is_tuple_of)))
    (l_is_tuple_of : K.lookup f_is_tuple_of = some ⟨oc_is_tuple_of, od_is_tuple_of, .func (PySem.W.fnOf "is_tuple_of" "is_tuple_of" (defArgs st_is_tuple_of) (defBody st_is_tuple_of) (defScope st_is_tuple_of) .none kV_is_tuple_of dc_is_tuple_of pm_is_tuple_of an_is_tuple_of cd_is_tuple_of ct_is_tuple_of), sl_is_tuple_of⟩)
    (c_is_tuple_of : PySem.W.codeIn K cd_is_tuple_of "is_tuple_of" = true)
    (k_is_tuple_of : PySem.W.keepIn K (.ref f_is_tuple_of) = true)
    (a_is_whole : PySem.W.nsIn K mainGlobals "is_whole" = some (some (.ref f_is_whole)))
    (l_is_whole : K.lookup f_is_whole = some ⟨oc_is_whole, od_is_whole, .func (PySem.W.fnOf "is_whole" "is_whole" (defArgs st_is_whole) (defBody st_is_whole) (defScope st_is_whole) .none kV_is_whole dc_is_whole pm_is_whole an_is_whole cd_is_whole ct_is_whole), sl_is_whole⟩)
    (c_is_whole : PySem.W.codeIn K cd_is_whole "is_whole" = true)
    (k_is_whole : PySem.W.keepIn K (.ref f_is_whole) = true)
    (a_is_ratio : PySem.W.nsIn K mainGlobals "is_ratio" = some (some (.ref f_is_ratio)))
    (l_is_ratio : K.lookup f_is_ratio = some ⟨oc_is_ratio, od_is_ratio, .func (PySem.W.fnOf "is_ratio" "is_ratio" (defArgs st_is_ratio) (defBody st_is_ratio) (defScope st_is_ratio) .none kV_is_ratio dc_is_ratio pm_is_ratio an_is_ratio cd_is_ratio ct_is_ratio), sl_is_ratio⟩)
    (c_is_ratio : PySem.W.codeIn K cd_is_ratio "is_ratio" = true)
    (k_is_ratio : PySem.W.keepIn K (.ref f_is_ratio) = true)
    (a_check_ratio : PySem.W.nsIn K mainGlobals "check_ratio" = some (some (.ref f_check_ratio)))
    (l_check_ratio : K.lookup f_check_ratio = some ⟨oc_check_ratio, od_check_ratio, .func (PySem.W.fnOf "check_ratio" "check_ratio" (defArgs st_check_ratio) (defBody st_check_ratio) (defScope st_check_ratio) .none kV_check_ratio dc_check_ratio pm_check_ratio an_check_ratio cd_check_ratio ct_check_ratio), sl_check_ratio⟩)
    (c_check_ratio : PySem.W.codeIn K cd_check_ratio "check_ratio" = true)
    (k_check_ratio : PySem.W.keepIn K (.ref f_check_ratio) = true)
    (a_compare : PySem.W.nsIn K mainGlobals "compare" = some (some (.ref f_compare)))
    (l_compare : K.lookup f_compare = some ⟨oc_compare, od_compare, .func (PySem.W.fnOf "compare" "compare" (defArgs st_compare) (defBody st_compare) (defScope st_compare) .none kV_compare dc_compare pm_compare an_compare cd_compare ct_compare), sl_compare⟩)
    (c_compare : PySem.W.codeIn K cd_compare "compare" = true)
    (k_compare : PySem.W.keepIn K (.ref f_compare) = true)
    (a_is_small_ratio : PySem.W.nsIn K mainGlobals "is_small_ratio" = some (some (.ref f_is_small_ratio)))
    (l_is_small_ratio : K.lookup f_is_small_ratio = some ⟨oc_is_small_ratio, od_is_small_ratio, .func (PySem.W.fnOf "is_small_ratio" "is_small_ratio" (defArgs st_is_small_ratio) (defBody st_is_small_ratio) (defScope st_is_small_ratio) .none kV_is_small_ratio dc_is_small_ratio pm_is_small_ratio an_is_small_ratio cd_is_small_ratio ct_is_small_ratio), sl_is_small_ratio⟩)
    (c_is_small_ratio : PySem.W.codeIn K cd_is_small_ratio "is_small_ratio" = true)
    (k_is_small_ratio : PySem.W.keepIn K (.ref f_is_small_ratio) = true)
    (a_is_reading : PySem.W.nsIn K mainGlobals "is_reading" = some (some (.ref f_is_reading)))
    (l_is_reading : K.lookup f_is_reading = some ⟨oc_is_reading, od_is_reading, .func (PySem.W.fnOf "is_reading" "is_reading" (defArgs st_is_reading) (defBody st_is_reading) (defScope st_is_reading) .none kV_is_reading dc_is_reading pm_is_reading an_is_reading cd_is_reading ct_is_reading), sl_is_reading⟩)
    (c_is_reading : PySem.W.codeIn K cd_is_reading "is_reading" = true)
    (k_is_reading : PySem.W.keepIn K (.ref f_is_reading) = true)
    (a_are_readings : PySem.W.nsIn K mainGlobals "are_readings" = some (some (.ref f_are_readings)))
    (l_are_readings : K.lookup f_are_readings = some ⟨oc_are_readings, od_are_readings, .func (PySem.W.fnOf "are_readings" "are_readings" (defArgs st_are_readings) (defBody st_are_readings) (defScope st_are_readings) .none kV_are_readings dc_are_readings pm_are_readings an_are_readings cd_are_readings ct_are_readings), sl_are_readings⟩)
    (c_are_readings : PySem.W.codeIn K cd_are_readings "are_readings" = true)
    (k_are_readings : PySem.W.keepIn K (.ref f_are_readings) = true)
    (a_is_term : PySem.W.nsIn K mainGlobals "is_term" = some (some (.ref f_is_term)))
    (l_is_term : K.lookup f_is_term = some ⟨oc_is_term, od_is_term, .func (PySem.W.fnOf "is_term" "is_term" (defArgs st_is_term) (defBody st_is_term) (defScope st_is_term) .none kV_is_term dc_is_term pm_is_term an_is_term cd_is_term ct_is_term), sl_is_term⟩)
    (c_is_term : PySem.W.codeIn K cd_is_term "is_term" = true)
    (k_is_term : PySem.W.keepIn K (.ref f_is_term) = true)
    (a_check_strike : PySem.W.nsIn K mainGlobals "check_strike" = some (some (.ref f_check_strike)))
    (l_check_strike : K.lookup f_check_strike = some ⟨oc_check_strike, od_check_strike, .func (PySem.W.fnOf "check_strike" "check_strike" (defArgs st_check_strike) (defBody st_check_strike) (defScope st_check_strike) .none kV_check_strike dc_check_strike pm_check_strike an_check_strike cd_check_strike ct_check_strike), sl_check_strike⟩)
    (c_check_strike : PySem.W.codeIn K cd_check_strike "check_strike" = true)
    (k_check_strike : PySem.W.keepIn K (.ref f_check_strike) = true)
    (a_ratio : PySem.W.nsIn K mainGlobals "ratio" = some (some (.ref f_ratio)))
    (l_ratio : K.lookup f_ratio = some ⟨oc_ratio, od_ratio, .func (PySem.W.fnOf "ratio" "ratio" (defArgs st_ratio) (defBody st_ratio) (defScope st_ratio) .none kV_ratio dc_ratio pm_ratio an_ratio cd_ratio ct_ratio), sl_ratio⟩)
    (c_ratio : PySem.W.codeIn K cd_ratio "ratio" = true)
    (k_ratio : PySem.W.keepIn K (.ref f_ratio) = true)
    (a_plus : PySem.W.nsIn K mainGlobals "plus" = some (some (.ref f_plus)))
    (l_plus : K.lookup f_plus = some ⟨oc_plus, od_plus, .func (PySem.W.fnOf "plus" "plus" (defArgs st_plus) (defBody st_plus) (defScope st_plus) .none kV_plus dc_plus pm_plus an_plus cd_plus ct_plus), sl_plus⟩)
    (c_plus : PySem.W.codeIn K cd_plus "plus" = true)
    (k_plus : PySem.W.keepIn K (.ref f_plus) = true)
    (a_total : PySem.W.nsIn K mainGlobals "total" = some (some (.ref f_total)))
    (l_total : K.lookup f_total = some ⟨oc_total, od_total, .func (PySem.W.fnOf "total" "total" (defArgs st_total) (defBody st_total) (defScope st_total) .none kV_total dc_total pm_total an_total cd_total ct_total), sl_total⟩)
    (c_total : PySem.W.codeIn K cd_total "total" = true)
    (k_total : PySem.W.keepIn K (.ref f_total) = true)
    (a_sums : PySem.W.nsIn K mainGlobals "sums" = some (some (.ref f_sums)))
    (l_sums : K.lookup f_sums = some ⟨oc_sums, od_sums, .func (PySem.W.fnOf "sums" "sums" (defArgs st_sums) (defBody st_sums) (defScope st_sums) .none kV_sums dc_sums pm_sums an_sums cd_sums ct_sums), sl_sums⟩)
    (c_sums : PySem.W.codeIn K cd_sums "sums" = true)
    (k_sums : PySem.W.keepIn K (.ref f_sums) = true)
    (a_is_whole_in : PySem.W.nsIn K mainGlobals "is_whole_in" = some (some (.ref f_is_whole_in)))
    (l_is_whole_in : K.lookup f_is_whole_in = some ⟨oc_is_whole_in, od_is_whole_in, .func (PySem.W.fnOf "is_whole_in" "is_whole_in" (defArgs st_is_whole_in) (defBody st_is_whole_in) (defScope st_is_whole_in) .none kV_is_whole_in dc_is_whole_in pm_is_whole_in an_is_whole_in cd_is_whole_in ct_is_whole_in), sl_is_whole_in⟩)
    (c_is_whole_in : PySem.W.codeIn K cd_is_whole_in "is_whole_in" = true)
    (k_is_whole_in : PySem.W.keepIn K (.ref f_is_whole_in) = true)
    (a_names_apart : PySem.W.nsIn K mainGlobals "names_apart" = some (some (.ref f_names_apart)))
    (l_names_apart : K.lookup f_names_apart = some ⟨oc_names_apart, od_names_apart, .func (PySem.W.fnOf "names_apart" "names_apart" (defArgs st_names_apart) (defBody st_names_apart) (defScope st_names_apart) .none kV_names_apart dc_names_apart pm_names_apart an_names_apart cd_names_apart ct_names_apart), sl_names_apart⟩)
    (c_names_apart : PySem.W.codeIn K cd_names_apart "names_apart" = true)
    (k_names_apart : PySem.W.keepIn K (.ref f_names_apart) = true)
    (a_larger : PySem.W.nsIn K mainGlobals "larger" = some (some (.ref f_larger)))
    (l_larger : K.lookup f_larger = some ⟨oc_larger, od_larger, .func (PySem.W.fnOf "larger" "larger" (defArgs st_larger) (defBody st_larger) (defScope st_larger) .none kV_larger dc_larger pm_larger an_larger cd_larger ct_larger), sl_larger⟩)
    (c_larger : PySem.W.codeIn K cd_larger "larger" = true)
    (k_larger : PySem.W.keepIn K (.ref f_larger) = true)
    (a_greatest_low : PySem.W.nsIn K mainGlobals "greatest_low" = some (some (.ref f_greatest_low)))
    (l_greatest_low : K.lookup f_greatest_low = some ⟨oc_greatest_low, od_greatest_low, .func (PySem.W.fnOf "greatest_low" "greatest_low" (defArgs st_greatest_low) (defBody st_greatest_low) (defScope st_greatest_low) .none kV_greatest_low dc_greatest_low pm_greatest_low an_greatest_low cd_greatest_low ct_greatest_low), sl_greatest_low⟩)
    (c_greatest_low : PySem.W.codeIn K cd_greatest_low "greatest_low" = true)
    (k_greatest_low : PySem.W.keepIn K (.ref f_greatest_low) = true)
    (a_lesser : PySem.W.nsIn K mainGlobals "lesser" = some (some (.ref f_lesser)))
    (l_lesser : K.lookup f_lesser = some ⟨oc_lesser, od_lesser, .func (PySem.W.fnOf "lesser" "lesser" (defArgs st_lesser) (defBody st_lesser) (defScope st_lesser) .none kV_lesser dc_lesser pm_lesser an_lesser cd_lesser ct_lesser), sl_lesser⟩)
    (c_lesser : PySem.W.codeIn K cd_lesser "lesser" = true)
    (k_lesser : PySem.W.keepIn K (.ref f_lesser) = true)
    (a_least_high : PySem.W.nsIn K mainGlobals "least_high" = some (some (.ref f_least_high)))
    (l_least_high : K.lookup f_least_high = some ⟨oc_least_high, od_least_high, .func (PySem.W.fnOf "least_high" "least_high" (defArgs st_least_high) (defBody st_least_high) (defScope st_least_high) .none kV_least_high dc_least_high pm_least_high an_least_high cd_least_high ct_least_high), sl_least_high⟩)
    (c_least_high : PySem.W.codeIn K cd_least_high "least_high" = true)
    (k_least_high : PySem.W.keepIn K (.ref f_least_high) = true)
    (a_are_apart : PySem.W.nsIn K mainGlobals "are_apart" = some (some (.ref f_are_apart)))
    (l_are_apart : K.lookup f_are_apart = some ⟨oc_are_apart, od_are_apart, .func (PySem.W.fnOf "are_apart" "are_apart" (defArgs st_are_apart) (defBody st_are_apart) (defScope st_are_apart) .none kV_are_apart dc_are_apart pm_are_apart an_are_apart cd_are_apart ct_are_apart), sl_are_apart⟩)
    (c_are_apart : PySem.W.codeIn K cd_are_apart "are_apart" = true)
    (k_are_apart : PySem.W.keepIn K (.ref f_are_apart) = true)
    (a_any_apart : PySem.W.nsIn K mainGlobals "any_apart" = some (some (.ref f_any_apart)))
    (l_any_apart : K.lookup f_any_apart = some ⟨oc_any_apart, od_any_apart, .func (PySem.W.fnOf "any_apart" "any_apart" (defArgs st_any_apart) (defBody st_any_apart) (defScope st_any_apart) .none kV_any_apart dc_any_apart pm_any_apart an_any_apart cd_any_apart ct_any_apart), sl_any_apart⟩)
    (c_any_apart : PySem.W.codeIn K cd_any_apart "any_apart" = true)
    (k_any_apart : PySem.W.keepIn K (.ref f_any_apart) = true)
    (a_minus : PySem.W.nsIn K mainGlobals "minus" = some (some (.ref f_minus)))
    (l_minus : K.lookup f_minus = some ⟨oc_minus, od_minus, .func (PySem.W.fnOf "minus" "minus" (defArgs st_minus) (defBody st_minus) (defScope st_minus) .none kV_minus dc_minus pm_minus an_minus cd_minus ct_minus), sl_minus⟩)
    (c_minus : PySem.W.codeIn K cd_minus "minus" = true)
    (k_minus : PySem.W.keepIn K (.ref f_minus) = true)
    (a_signed_bounds : PySem.W.nsIn K mainGlobals "signed_bounds" = some (some (.ref f_signed_bounds)))
    (l_signed_bounds : K.lookup f_signed_bounds = some ⟨oc_signed_bounds, od_signed_bounds, .func (PySem.W.fnOf "signed_bounds" "signed_bounds" (defArgs st_signed_bounds) (defBody st_signed_bounds) (defScope st_signed_bounds) .none kV_signed_bounds dc_signed_bounds pm_signed_bounds an_signed_bounds cd_signed_bounds ct_signed_bounds), sl_signed_bounds⟩)
    (c_signed_bounds : PySem.W.codeIn K cd_signed_bounds "signed_bounds" = true)
    (k_signed_bounds : PySem.W.keepIn K (.ref f_signed_bounds) = true)
    (a_is_unsound : PySem.W.nsIn K mainGlobals "is_unsound" = some (some (.ref f_is_unsound)))
    (l_is_unsound : K.lookup f_is_unsound = some ⟨oc_is_unsound, od_is_unsound, .func (PySem.W.fnOf "is_unsound" "is_unsound" (defArgs st_is_unsound) (defBody st_is_unsound) (defScope st_is_unsound) .none kV_is_unsound dc_is_unsound pm_is_unsound an_is_unsound cd_is_unsound ct_is_unsound), sl_is_unsound⟩)
    (c_is_unsound : PySem.W.codeIn K cd_is_unsound "is_unsound" = true)
    (k_is_unsound : PySem.W.keepIn K (.ref f_is_unsound) = true)
    (a_is_answer : PySem.W.nsIn K mainGlobals "is_answer" = some (some (.ref f_is_answer)))
    (l_is_answer : K.lookup f_is_answer = some ⟨oc_is_answer, od_is_answer, .func (PySem.W.fnOf "is_answer" "is_answer" (defArgs st_is_answer) (defBody st_is_answer) (defScope st_is_answer) .none kV_is_answer dc_is_answer pm_is_answer an_is_answer cd_is_answer ct_is_answer), sl_is_answer⟩)
    (c_is_answer : PySem.W.codeIn K cd_is_answer "is_answer" = true)
    (k_is_answer : PySem.W.keepIn K (.ref f_is_answer) = true)
    (a_lies_in : PySem.W.nsIn K mainGlobals "lies_in" = some (some (.ref f_lies_in)))
    (l_lies_in : K.lookup f_lies_in = some ⟨oc_lies_in, od_lies_in, .func (PySem.W.fnOf "lies_in" "lies_in" (defArgs st_lies_in) (defBody st_lies_in) (defScope st_lies_in) .none kV_lies_in dc_lies_in pm_lies_in an_lies_in cd_lies_in ct_lies_in), sl_lies_in⟩)
    (c_lies_in : PySem.W.codeIn K cd_lies_in "lies_in" = true)
    (k_lies_in : PySem.W.keepIn K (.ref f_lies_in) = true)
    (a_times : PySem.W.nsIn K mainGlobals "times" = some (some (.ref f_times)))
    (l_times : K.lookup f_times = some ⟨oc_times, od_times, .func (PySem.W.fnOf "times" "times" (defArgs st_times) (defBody st_times) (defScope st_times) .none kV_times dc_times pm_times an_times cd_times ct_times), sl_times⟩)
    (c_times : PySem.W.codeIn K cd_times "times" = true)
    (k_times : PySem.W.keepIn K (.ref f_times) = true)
    (a_with_signs : PySem.W.nsIn K mainGlobals "with_signs" = some (some (.ref f_with_signs)))
    (l_with_signs : K.lookup f_with_signs = some ⟨oc_with_signs, od_with_signs, .func (PySem.W.fnOf "with_signs" "with_signs" (defArgs st_with_signs) (defBody st_with_signs) (defScope st_with_signs) .none kV_with_signs dc_with_signs pm_with_signs an_with_signs cd_with_signs ct_with_signs), sl_with_signs⟩)
    (c_with_signs : PySem.W.codeIn K cd_with_signs "with_signs" = true)
    (k_with_signs : PySem.W.keepIn K (.ref f_with_signs) = true)
    (a_are_measures : PySem.W.nsIn K mainGlobals "are_measures" = some (some (.ref f_are_measures)))
    (l_are_measures : K.lookup f_are_measures = some ⟨oc_are_measures, od_are_measures, .func (PySem.W.fnOf "are_measures" "are_measures" (defArgs st_are_measures) (defBody st_are_measures) (defScope st_are_measures) .none kV_are_measures dc_are_measures pm_are_measures an_are_measures cd_are_measures ct_are_measures), sl_are_measures⟩)
    (c_are_measures : PySem.W.codeIn K cd_are_measures "are_measures" = true)
    (k_are_measures : PySem.W.keepIn K (.ref f_are_measures) = true)
    (a_upholds_strike : PySem.W.nsIn K mainGlobals "upholds_strike" = some (some (.ref f_upholds_strike)))
    (l_upholds_strike : K.lookup f_upholds_strike = some ⟨oc_upholds_strike, od_upholds_strike, .func (PySem.W.fnOf "upholds_strike" "upholds_strike" (defArgs st_upholds_strike) (defBody st_upholds_strike) (defScope st_upholds_strike) .none kV_upholds_strike dc_upholds_strike pm_upholds_strike an_upholds_strike cd_upholds_strike ct_upholds_strike), sl_upholds_strike⟩)
    (c_upholds_strike : PySem.W.codeIn K cd_upholds_strike "upholds_strike" = true)
    (k_upholds_strike : PySem.W.keepIn K (.ref f_upholds_strike) = true)
    (a__law_is_whole : PySem.W.nsIn K mainGlobals "_law_is_whole" = some (some (.ref f__law_is_whole)))
    (l__law_is_whole : K.lookup f__law_is_whole = some ⟨oc__law_is_whole, od__law_is_whole, .func (PySem.W.fnOf "_law_is_whole" "_law_is_whole" (defArgs st__law_is_whole) (defBody st__law_is_whole) (defScope st__law_is_whole) .none kV__law_is_whole dc__law_is_whole pm__law_is_whole an__law_is_whole cd__law_is_whole ct__law_is_whole), sl__law_is_whole⟩)
    (c__law_is_whole : PySem.W.codeIn K cd__law_is_whole "_law_is_whole" = true)
    (k__law_is_whole : PySem.W.keepIn K (.ref f__law_is_whole) = true)
    (a__law_parts : PySem.W.nsIn K mainGlobals "_law_parts" = some (some (.ref f__law_parts)))
    (l__law_parts : K.lookup f__law_parts = some ⟨oc__law_parts, od__law_parts, .func (PySem.W.fnOf "_law_parts" "_law_parts" (defArgs st__law_parts) (defBody st__law_parts) (defScope st__law_parts) .none kV__law_parts dc__law_parts pm__law_parts an__law_parts cd__law_parts ct__law_parts), sl__law_parts⟩)
    (c__law_parts : PySem.W.codeIn K cd__law_parts "_law_parts" = true)
    (k__law_parts : PySem.W.keepIn K (.ref f__law_parts) = true)
    (a__law_yes : PySem.W.nsIn K mainGlobals "_law_yes" = some (some (.ref f__law_yes)))
    (l__law_yes : K.lookup f__law_yes = some ⟨oc__law_yes, od__law_yes, .func (PySem.W.fnOf "_law_yes" "_law_yes" (defArgs st__law_yes) (defBody st__law_yes) (defScope st__law_yes) .none kV__law_yes dc__law_yes pm__law_yes an__law_yes cd__law_yes ct__law_yes), sl__law_yes⟩)
    (c__law_yes : PySem.W.codeIn K cd__law_yes "_law_yes" = true)
    (k__law_yes : PySem.W.keepIn K (.ref f__law_yes) = true)
    (a__law_names_apart : PySem.W.nsIn K mainGlobals "_law_names_apart" = some (some (.ref f__law_names_apart)))
    (l__law_names_apart : K.lookup f__law_names_apart = some ⟨oc__law_names_apart, od__law_names_apart, .func (PySem.W.fnOf "_law_names_apart" "_law_names_apart" (defArgs st__law_names_apart) (defBody st__law_names_apart) (defScope st__law_names_apart) .none kV__law_names_apart dc__law_names_apart pm__law_names_apart an__law_names_apart cd__law_names_apart ct__law_names_apart), sl__law_names_apart⟩)
    (c__law_names_apart : PySem.W.codeIn K cd__law_names_apart "_law_names_apart" = true)
    (k__law_names_apart : PySem.W.keepIn K (.ref f__law_names_apart) = true)
    (a__law_no : PySem.W.nsIn K mainGlobals "_law_no" = some (some (.ref f__law_no)))
    (l__law_no : K.lookup f__law_no = some ⟨oc__law_no, od__law_no, .func (PySem.W.fnOf "_law_no" "_law_no" (defArgs st__law_no) (defBody st__law_no) (defScope st__law_no) .none kV__law_no dc__law_no pm__law_no an__law_no cd__law_no ct__law_no), sl__law_no⟩)
    (c__law_no : PySem.W.codeIn K cd__law_no "_law_no" = true)
    (k__law_no : PySem.W.keepIn K (.ref f__law_no) = true)
    (a__law_right : PySem.W.nsIn K mainGlobals "_law_right" = some (some (.ref f__law_right)))
    (l__law_right : K.lookup f__law_right = some ⟨oc__law_right, od__law_right, .func (PySem.W.fnOf "_law_right" "_law_right" (defArgs st__law_right) (defBody st__law_right) (defScope st__law_right) .none kV__law_right dc__law_right pm__law_right an__law_right cd__law_right ct__law_right), sl__law_right⟩)
    (c__law_right : PySem.W.codeIn K cd__law_right "_law_right" = true)
    (k__law_right : PySem.W.keepIn K (.ref f__law_right) = true)
    (a_first_apart : PySem.W.nsIn K mainGlobals "first_apart" = some (some (.ref f_first_apart)))
    (l_first_apart : K.lookup f_first_apart = some ⟨oc_first_apart, od_first_apart, .func (PySem.W.fnOf "first_apart" "first_apart" (defArgs st_first_apart) (defBody st_first_apart) (defScope st_first_apart) .none kV_first_apart dc_first_apart pm_first_apart an_first_apart cd_first_apart ct_first_apart), sl_first_apart⟩)
    (c_first_apart : PySem.W.codeIn K cd_first_apart "first_apart" = true)
    (k_first_apart : PySem.W.keepIn K (.ref f_first_apart) = true)
    (a_raised_values : PySem.W.nsIn K mainGlobals "raised_values" = some (some (.ref f_raised_values)))
    (l_raised_values : K.lookup f_raised_values = some ⟨oc_raised_values, od_raised_values, .func (PySem.W.fnOf "raised_values" "raised_values" (defArgs st_raised_values) (defBody st_raised_values) (defScope st_raised_values) .none kV_raised_values dc_raised_values pm_raised_values an_raised_values cd_raised_values ct_raised_values), sl_raised_values⟩)
    (c_raised_values : PySem.W.codeIn K cd_raised_values "raised_values" = true)
    (k_raised_values : PySem.W.keepIn K (.ref f_raised_values) = true)
    (a_settle_strike : PySem.W.nsIn K mainGlobals "settle_strike" = some (some (.ref f_settle_strike)))
    (l_settle_strike : K.lookup f_settle_strike = some ⟨oc_settle_strike, od_settle_strike, .func (PySem.W.fnOf "settle_strike" "settle_strike" (defArgs st_settle_strike) (defBody st_settle_strike) (defScope st_settle_strike) .none kV_settle_strike dc_settle_strike pm_settle_strike an_settle_strike cd_settle_strike ct_settle_strike), sl_settle_strike⟩)
    (c_settle_strike : PySem.W.codeIn K cd_settle_strike "settle_strike" = true)
    (k_settle_strike : PySem.W.keepIn K (.ref f_settle_strike) = true)
    (a__law_yes_papers : PySem.W.nsIn K mainGlobals "_law_yes_papers" = some (some (.ref f__law_yes_papers)))
    (l__law_yes_papers : K.lookup f__law_yes_papers = some ⟨oc__law_yes_papers, od__law_yes_papers, .func (PySem.W.fnOf "_law_yes_papers" "_law_yes_papers" (defArgs st__law_yes_papers) (defBody st__law_yes_papers) (defScope st__law_yes_papers) .none kV__law_yes_papers dc__law_yes_papers pm__law_yes_papers an__law_yes_papers cd__law_yes_papers ct__law_yes_papers), sl__law_yes_papers⟩)
    (c__law_yes_papers : PySem.W.codeIn K cd__law_yes_papers "_law_yes_papers" = true)
    (k__law_yes_papers : PySem.W.keepIn K (.ref f__law_yes_papers) = true)
    (a__law_no_papers : PySem.W.nsIn K mainGlobals "_law_no_papers" = some (some (.ref f__law_no_papers)))
    (l__law_no_papers : K.lookup f__law_no_papers = some ⟨oc__law_no_papers, od__law_no_papers, .func (PySem.W.fnOf "_law_no_papers" "_law_no_papers" (defArgs st__law_no_papers) (defBody st__law_no_papers) (defScope st__law_no_papers) .none kV__law_no_papers dc__law_no_papers pm__law_no_papers an__law_no_papers cd__law_no_papers ct__law_no_papers), sl__law_no_papers⟩)
    (c__law_no_papers : PySem.W.codeIn K cd__law_no_papers "_law_no_papers" = true)
    (k__law_no_papers : PySem.W.keepIn K (.ref f__law_no_papers) = true)
    (a_law : PySem.W.nsIn K mainGlobals "law" = some (some (.ref f_law)))
    (l_law : K.lookup f_law = some ⟨oc_law, od_law, .func (PySem.W.fnOf "law" "law" (defArgs st_law) (defBody st_law) (defScope st_law) .none kV_law dc_law pm_law an_law cd_law ct_law), sl_law⟩)
    (c_law : PySem.W.codeIn K cd_law "law" = true)
    (k_law : PySem.W.keepIn K (.ref f_law) = true)
    : ∃ fd : FuncData, (∀ (s : Shared) (v : Value), BindsTo s fd ⟨[v], []⟩ [("script", v)]) ∧ ∀ base : Heap, K.In base → base.Ns mainGlobals mg → FnOk l.prog w K mg base (L2.CX l.prog w) 11 fa fd ["script"] (spL K) := by
  have e := hfa.symm.trans (PySem.W.mg_of X G a_law)
  cases e
  have T : Txt K mg := {
    con_GREATEST_BOTTOM := Con0.int X G v_GREATEST_BOTTOM,
    con_GREATEST_TOP := Con0.int X G v_GREATEST_TOP,
    con_MOST_READINGS := Con0.int X G v_MOST_READINGS,
    con_MOST_TERMS := Con0.int X G v_MOST_TERMS,
    con_ZERO := Con0.ktp (vs := [.int 0, .int 1]) X G v_ZERO w_ZERO (by show 2 ≤ sizeLine; decide +kernel) (.cons ⟨t_ZERO_0, rfl⟩ (.cons ⟨t_ZERO_1, rfl⟩ .nil)) (fun _ => ⟨_, _, rfl, rfl, ⟨_, _, rfl, rfl, rfl⟩⟩),
    fun_gcd := PySem.W.mg_of X G u_gcd,
    no_abs := PySem.W.mg_none_of X G n_abs,
    no_all := PySem.W.mg_none_of X G n_all,
    no_any := PySem.W.mg_none_of X G n_any,
    no_bool := PySem.W.mg_none_of X G n_bool,
    no_enumerate := PySem.W.mg_none_of X G n_enumerate,
    no_int := PySem.W.mg_none_of X G n_int,
    no_isinstance := PySem.W.mg_none_of X G n_isinstance,
    no_len := PySem.W.mg_none_of X G n_len,
    no_list := PySem.W.mg_none_of X G n_list,
    no_max := PySem.W.mg_none_of X G n_max,
    no_min := PySem.W.mg_none_of X G n_min,
    no_range := PySem.W.mg_none_of X G n_range,
    no_str := PySem.W.mg_none_of X G n_str,
    no_sum := PySem.W.mg_none_of X G n_sum,
    no_tuple := PySem.W.mg_none_of X G n_tuple,
    no_zip := PySem.W.mg_none_of X G n_zip,
    exc_BadRatio := Exc0.mk' X G g_BadRatio e_BadRatio k_BadRatio s_BadRatio t_BadRatio,
    exc_BadStrike := Exc0.mk' X G g_BadStrike e_BadStrike k_BadStrike s_BadStrike t_BadStrike,
    fn__law_pool := FnT.mk' X G a__law_pool l__law_pool c__law_pool k__law_pool fun _ _ _ _ _ _ us hl => match us, hl with | [_], _ => rfl,
    fn__law_at := FnT.mk' X G a__law_at l__law_at c__law_at k__law_at fun _ _ _ _ _ _ us hl => match us, hl with | [_, _], _ => rfl,
    fn__law_strike := FnT.mk' X G a__law_strike l__law_strike c__law_strike k__law_strike fun _ _ _ _ _ _ us hl => match us, hl with | [_, _], _ => rfl,
    fn__law_meet := FnT.mk' X G a__law_meet l__law_meet c__law_meet k__law_meet fun _ _ _ _ _ _ us hl => match us, hl with | [_], _ => rfl,
    fn__law_ends := FnT.mk' X G a__law_ends l__law_ends c__law_ends k__law_ends fun _ _ _ _ _ _ us hl => match us, hl with | [_], _ => rfl,
    fn__law_total := FnT.mk' X G a__law_total l__law_total c__law_total k__law_total fun _ _ _ _ _ _ us hl => match us, hl with | [_, _, _], _ => rfl,
    fn__law_ratio := FnT.mk' X G a__law_ratio l__law_ratio c__law_ratio k__law_ratio fun _ _ _ _ _ _ us hl => match us, hl with | [_, _], _ => rfl,
    fn__law_as_reading := FnT.mk' X G a__law_as_reading l__law_as_reading c__law_as_reading k__law_as_reading fun _ _ _ _ _ _ us hl => match us, hl with | [_, _], _ => rfl,
    fn__law_subject := FnT.mk' X G a__law_subject l__law_subject c__law_subject k__law_subject fun _ _ _ _ _ _ us hl => match us, hl with | [_, _, _], _ => rfl,
    fn__law_apart := FnT.mk' X G a__law_apart l__law_apart c__law_apart k__law_apart fun _ _ _ _ _ _ us hl => match us, hl with | [_], _ => rfl,
    fn__law_values := FnT.mk' X G a__law_values l__law_values c__law_values k__law_values fun _ _ _ _ _ _ us hl => match us, hl with | [_, _, _, _], _ => rfl,
    fn__law_due := FnT.mk' X G a__law_due l__law_due c__law_due k__law_due fun _ _ _ _ _ _ us hl => match us, hl with | [_, _, _], _ => rfl,
    fn_is_tuple_of := FnT.mk' X G a_is_tuple_of l_is_tuple_of c_is_tuple_of k_is_tuple_of fun _ _ _ _ _ _ us hl => match us, hl with | [_, _, _], _ => rfl,
    fn_is_whole := FnT.mk' X G a_is_whole l_is_whole c_is_whole k_is_whole fun _ _ _ _ _ _ us hl => match us, hl with | [_], _ => rfl,
    fn_is_ratio := FnT.mk' X G a_is_ratio l_is_ratio c_is_ratio k_is_ratio fun _ _ _ _ _ _ us hl => match us, hl with | [_], _ => rfl,
    fn_check_ratio := FnT.mk' X G a_check_ratio l_check_ratio c_check_ratio k_check_ratio fun _ _ _ _ _ _ us hl => match us, hl with | [_], _ => rfl,
    fn_compare := FnT.mk' X G a_compare l_compare c_compare k_compare fun _ _ _ _ _ _ us hl => match us, hl with | [_, _], _ => rfl,
    fn_is_small_ratio := FnT.mk' X G a_is_small_ratio l_is_small_ratio c_is_small_ratio k_is_small_ratio fun _ _ _ _ _ _ us hl => match us, hl with | [_], _ => rfl,
    fn_is_reading := FnT.mk' X G a_is_reading l_is_reading c_is_reading k_is_reading fun _ _ _ _ _ _ us hl => match us, hl with | [_], _ => rfl,
    fn_are_readings := FnT.mk' X G a_are_readings l_are_readings c_are_readings k_are_readings fun _ _ _ _ _ _ us hl => match us, hl with | [_], _ => rfl,
    fn_is_term := FnT.mk' X G a_is_term l_is_term c_is_term k_is_term fun _ _ _ _ _ _ us hl => match us, hl with | [_], _ => rfl,
    fn_check_strike := FnT.mk' X G a_check_strike l_check_strike c_check_strike k_check_strike fun _ _ _ _ _ _ us hl => match us, hl with | [_], _ => rfl,
    fn_ratio := FnT.mk' X G a_ratio l_ratio c_ratio k_ratio fun _ _ _ _ _ _ us hl => match us, hl with | [_, _], _ => rfl,
    fn_plus := FnT.mk' X G a_plus l_plus c_plus k_plus fun _ _ _ _ _ _ us hl => match us, hl with | [_, _], _ => rfl,
    fn_total := FnT.mk' X G a_total l_total c_total k_total fun _ _ _ _ _ _ us hl => match us, hl with | [_], _ => rfl,
    fn_sums := FnT.mk' X G a_sums l_sums c_sums k_sums fun _ _ _ _ _ _ us hl => match us, hl with | [_], _ => rfl,
    fn_is_whole_in := FnT.mk' X G a_is_whole_in l_is_whole_in c_is_whole_in k_is_whole_in fun _ _ _ _ _ _ us hl => match us, hl with | [_, _, _], _ => rfl,
    fn_names_apart := FnT.mk' X G a_names_apart l_names_apart c_names_apart k_names_apart fun _ _ _ _ _ _ us hl => match us, hl with | [_, _], _ => rfl,
    fn_larger := FnT.mk' X G a_larger l_larger c_larger k_larger fun _ _ _ _ _ _ us hl => match us, hl with | [_, _], _ => rfl,
    fn_greatest_low := FnT.mk' X G a_greatest_low l_greatest_low c_greatest_low k_greatest_low fun _ _ _ _ _ _ us hl => match us, hl with | [_], _ => rfl,
    fn_lesser := FnT.mk' X G a_lesser l_lesser c_lesser k_lesser fun _ _ _ _ _ _ us hl => match us, hl with | [_, _], _ => rfl,
    fn_least_high := FnT.mk' X G a_least_high l_least_high c_least_high k_least_high fun _ _ _ _ _ _ us hl => match us, hl with | [_], _ => rfl,
    fn_are_apart := FnT.mk' X G a_are_apart l_are_apart c_are_apart k_are_apart fun _ _ _ _ _ _ us hl => match us, hl with | [_], _ => rfl,
    fn_any_apart := FnT.mk' X G a_any_apart l_any_apart c_any_apart k_any_apart fun _ _ _ _ _ _ us hl => match us, hl with | [_], _ => rfl,
    fn_minus := FnT.mk' X G a_minus l_minus c_minus k_minus fun _ _ _ _ _ _ us hl => match us, hl with | [_, _], _ => rfl,
    fn_signed_bounds := FnT.mk' X G a_signed_bounds l_signed_bounds c_signed_bounds k_signed_bounds fun _ _ _ _ _ _ us hl => match us, hl with | [_], _ => rfl,
    fn_is_unsound := FnT.mk' X G a_is_unsound l_is_unsound c_is_unsound k_is_unsound fun _ _ _ _ _ _ us hl => match us, hl with | [_, _], _ => rfl,
    fn_is_answer := FnT.mk' X G a_is_answer l_is_answer c_is_answer k_is_answer fun _ _ _ _ _ _ us hl => match us, hl with | [_], _ => rfl,
    fn_lies_in := FnT.mk' X G a_lies_in l_lies_in c_lies_in k_lies_in fun _ _ _ _ _ _ us hl => match us, hl with | [_, _], _ => rfl,
    fn_times := FnT.mk' X G a_times l_times c_times k_times fun _ _ _ _ _ _ us hl => match us, hl with | [_, _], _ => rfl,
    fn_with_signs := FnT.mk' X G a_with_signs l_with_signs c_with_signs k_with_signs fun _ _ _ _ _ _ us hl => match us, hl with | [_, _], _ => rfl,
    fn_are_measures := FnT.mk' X G a_are_measures l_are_measures c_are_measures k_are_measures fun _ _ _ _ _ _ us hl => match us, hl with | [_, _], _ => rfl,
    fn_upholds_strike := FnT.mk' X G a_upholds_strike l_upholds_strike c_upholds_strike k_upholds_strike fun _ _ _ _ _ _ us hl => match us, hl with | [_, _], _ => rfl,
    fn__law_is_whole := FnT.mk' X G a__law_is_whole l__law_is_whole c__law_is_whole k__law_is_whole fun _ _ _ _ _ _ us hl => match us, hl with | [_], _ => rfl,
    fn__law_parts := FnT.mk' X G a__law_parts l__law_parts c__law_parts k__law_parts fun _ _ _ _ _ _ us hl => match us, hl with | [_, _], _ => rfl,
    fn__law_yes := FnT.mk' X G a__law_yes l__law_yes c__law_yes k__law_yes fun _ _ _ _ _ _ us hl => match us, hl with | [_, _, _, _], _ => rfl,
    fn__law_names_apart := FnT.mk' X G a__law_names_apart l__law_names_apart c__law_names_apart k__law_names_apart fun _ _ _ _ _ _ us hl => match us, hl with | [_, _], _ => rfl,
    fn__law_no := FnT.mk' X G a__law_no l__law_no c__law_no k__law_no fun _ _ _ _ _ _ us hl => match us, hl with | [_, _, _, _], _ => rfl,
    fn__law_right := FnT.mk' X G a__law_right l__law_right c__law_right k__law_right fun _ _ _ _ _ _ us hl => match us, hl with | [_, _, _, _], _ => rfl,
    fn_first_apart := FnT.mk' X G a_first_apart l_first_apart c_first_apart k_first_apart fun _ _ _ _ _ _ us hl => match us, hl with | [_], _ => rfl,
    fn_raised_values := FnT.mk' X G a_raised_values l_raised_values c_raised_values k_raised_values fun _ _ _ _ _ _ us hl => match us, hl with | [_, _], _ => rfl,
    fn_settle_strike := FnT.mk' X G a_settle_strike l_settle_strike c_settle_strike k_settle_strike fun _ _ _ _ _ _ us hl => match us, hl with | [_], _ => rfl,
    fn__law_yes_papers := FnT.mk' X G a__law_yes_papers l__law_yes_papers c__law_yes_papers k__law_yes_papers fun _ _ _ _ _ _ us hl => match us, hl with | [_, _, _, _], _ => rfl,
    fn__law_no_papers := FnT.mk' X G a__law_no_papers l__law_no_papers c__law_no_papers k__law_no_papers fun _ _ _ _ _ _ us hl => match us, hl with | [_, _, _, _], _ => rfl,
    fn_law := FnT.mk' X G a_law l_law c_law k_law fun _ _ _ _ _ _ us hl => match us, hl with | [_], _ => rfl }
  exact ⟨_, fun s v => .of_eq rfl, fun base _ _ => fnL (fnok_law T (fun_mk l_law c_law k_law)) hF⟩
end K16

/-! the size of a plain value -/
namespace Std
open PL PySem
mutual
def psz : D → Option Nat
  | .int _ => some 1
  | .str _ => some 1
  | .bl _ => some 1
  | .non => some 1
  | .tup ds => (pszL ds).map (· + 1)
  | _ => none
def pszL : List D → Option Nat
  | [] => some 0
  | d :: ds => (psz d).bind fun a => (pszL ds).map (a + ·)
end
theorem pszL_app : ∀ (xs ys : List D) (n : Nat), pszL (xs ++ ys) = some n → ∃ a b, pszL xs = some a ∧ pszL ys = some b ∧ n = a + b
  | [], ys, n, h => ⟨0, n, rfl, h, by omega⟩
  | x :: xs, ys, n, h => by
    rw [List.cons_append] at h
    unfold pszL at h
    cases h1 : psz x with
    | none => rw [h1] at h; cases h
    | some c =>
      rw [h1] at h
      cases h2 : pszL (xs ++ ys) with
      | none => rw [h2] at h; cases h
      | some m =>
        rw [h2] at h
        cases h
        obtain ⟨a, b, h3, h4, e⟩ := pszL_app xs ys m h2
        refine ⟨c + a, b, ?_, h4, by show c + m = _; omega⟩
        unfold pszL
        rw [h1, h3]; rfl
theorem pszL_mk : ∀ (xs ys : List D) (a b : Nat), pszL xs = some a → pszL ys = some b → pszL (xs ++ ys) = some (a + b)
  | [], ys, a, b, h, h2 => by cases h; rw [List.nil_append, Nat.zero_add]; exact h2
  | x :: xs, ys, a, b, h, h2 => by
    unfold pszL at h
    cases h1 : psz x with
    | none => rw [h1] at h; cases h
    | some c =>
      rw [h1] at h
      cases h3 : pszL xs with
      | none => rw [h3] at h; cases h
      | some m =>
        rw [h3] at h
        cases h
        rw [List.cons_append]
        unfold pszL
        rw [h1, pszL_mk xs ys m b h3 h2]
        show some (c + (m + b)) = some (c + m + b)
        congr 1; omega
theorem psz_pos {d : D} {n : Nat} (h : psz d = some n) : 1 ≤ n := by
  cases d with
  | int i => cases h; omega
  | str i => cases h; omega
  | bl i => cases h; omega
  | non => cases h; omega
  | tup ds =>
    unfold psz at h
    cases h1 : pszL ds with
    | none => rw [h1] at h; cases h
    | some m => rw [h1] at h; cases h; show 1 ≤ m + 1; omega
  | _ => cases h
theorem pszL_len : ∀ {ds : List D} {n : Nat}, pszL ds = some n → ds.length ≤ n
  | [], n, h => by simp
  | d :: ds, n, h => by
    unfold pszL at h
    cases h1 : psz d with
    | none => rw [h1] at h; cases h
    | some c =>
      rw [h1] at h
      cases h2 : pszL ds with
      | none => rw [h2] at h; cases h
      | some m =>
        rw [h2] at h
        cases h
        have := pszL_len h2
        have := psz_pos h1
        rw [List.length_cons]
        show _ ≤ c + m
        omega
theorem pszL_one {d : D} {n : Nat} (h : pszL [d] = some n) : psz d = some n := by
  unfold pszL at h
  cases h1 : psz d with
  | none => rw [h1] at h; cases h
  | some c => rw [h1] at h; cases h; rfl

@[simp] theorem psz_int (i : Int) : psz (.int i) = some 1 := (rfl)
@[simp] theorem psz_str (i : Str) : psz (.str i) = some 1 := (rfl)
@[simp] theorem psz_bl (i : Bool) : psz (.bl i) = some 1 := (rfl)
@[simp] theorem psz_non : psz .non = some 1 := (rfl)
@[simp] theorem psz_tup (ds : List D) : psz (.tup ds) = (pszL ds).map (· + 1) := by rw [psz]
@[simp] theorem pszL_nil : pszL [] = some 0 := (rfl)
@[simp] theorem pszL_cons (d : D) (ds : List D) : pszL (d :: ds) = (psz d).bind fun a => (pszL ds).map (a + ·) := by rw [pszL]
/-- a list of things of at most c each -/
theorem pszL_le {c : Nat} : ∀ {ds : List D}, (∀ d ∈ ds, ∃ n, psz d = some n ∧ n ≤ c) → ∃ n, pszL ds = some n ∧ n ≤ c * ds.length
  | [], _ => ⟨0, rfl, Nat.zero_le _⟩
  | d :: ds, h => by
    obtain ⟨a, h1, h2⟩ := h d (List.mem_cons_self ..)
    obtain ⟨b, h3, h4⟩ := pszL_le (c := c) (ds := ds) fun e he => h e (List.mem_cons_of_mem _ he)
    refine ⟨a + b, by rw [pszL_cons, h1, h3]; rfl, ?_⟩
    rw [List.length_cons, Nat.mul_add]
    omega
end Std

/-! dicts of names met, sorting of the same things in another order -/
namespace Std
open PL PySem
theorem srtS_congr {a b : List Str} (p : a.Perm b) : srtS a = srtS b :=
  List.Perm.eq_of_pairwise (fun a b _ _ h1 h2 => leT_anti h1 h2) (srtS_le a) (srtS_le b) ((srtS_perm a).trans (p.trans (srtS_perm b).symm))
theorem srtS_len (a : List Str) : (srtS a).length = a.length := (srtS_perm a).length_eq
theorem srtI_len (a : List Int) : (srtI a).length = a.length := (srtI_perm a).length_eq
def seenD (zs : List Str) : List (D × D) := zs.map fun z => (.str z, .bl true)
theorem gGet_seen (z : Str) : ∀ zs : List Str, gGet false (seenD zs) [.inr z] = if z ∈ zs then some (.bl true) else none
  | [] => rfl
  | y :: zs => by
    show gGet false ((.str y, .bl true) :: seenD zs) _ = _
    by_cases h : y = z
    · subst h
      rw [gGet_pos rfl, if_pos (List.mem_cons_self ..)]
    · rw [gGet_neg (by show ¬ some [Sum.inr y] = _; simpa using h), gGet_seen z zs]
      by_cases hz : z ∈ zs
      · rw [if_pos hz, if_pos (List.mem_cons_of_mem _ hz)]
      · rw [if_neg hz, if_neg]
        intro q
        rcases List.mem_cons.mp q with e | q
        · exact h e.symm
        · exact hz q
theorem gPut_seen {z : Str} {zs : List Str} (h : z ∉ zs) : gPut false (seenD zs) [.inr z] (.str z) (.bl true) = seenD (zs ++ [z]) := by
  unfold gPut
  rw [gGet_seen, if_neg h]
  simp [seenD]
theorem seenD_len (zs : List Str) : (seenD zs).length = zs.length := by simp [seenD]
/-- a list reversed by [::-1] -/
theorem map_rev {α : Type} (f : α → D) (xs : List α) : (xs.map f).reverse = xs.reverse.map f := by rw [List.map_reverse]
theorem filter_rev_perm {α : Type} (p : α → Bool) (xs : List α) : (xs.reverse.filter p).Perm (xs.filter p) := (List.reverse_perm xs).filter p
theorem cutG_mid {α : Type} {xs : List α} {lo hi : Int} (h0 : 0 ≤ lo) (h1 : lo ≤ hi) : PL.cutG xs (some lo) (some hi) = (xs.drop lo.toNat).take (hi - lo).toNat := by
  unfold PL.cutG
  simp only [HT.sIx]
  rw [if_neg (by omega), if_neg (by omega)]
  by_cases h : lo.toNat ≤ xs.length
  · rw [show min lo.toNat xs.length = lo.toNat by omega, List.take_eq_take_iff, List.length_drop]
    omega
  · rw [List.drop_eq_nil_of_le (show xs.length ≤ min lo.toNat xs.length by omega), List.drop_eq_nil_of_le (show xs.length ≤ lo.toNat by omega)]
    simp
theorem choose_lt {α : Type} [Nonempty α] {n : Nat} {P : Nat → α → Prop} (h : ∀ k, k < n → ∃ x, P k x) : ∃ f : Nat → α, ∀ k, k < n → P k (f k) := by
  classical
  exact ⟨fun k => if hk : k < n then Classical.choose (h k hk) else Classical.choice inferInstance, fun k hk => by
    show P k (if hk : k < n then Classical.choose (h k hk) else Classical.choice inferInstance)
    rw [dif_pos hk]
    exact Classical.choose_spec (h k hk)⟩
end Std

/-! equality of plain values, membership -/
namespace Std
open PL PySem
def clay (d : D) : Bool := PyData.canLay0 (toPy d)
def clayL (ds : List D) : Bool := PyData.canLayAll0 (toPyL ds)
def dpt (d : D) : Nat := PyData.depth (toPy d)
def dptL (ds : List D) : Nat := PyData.depthAll (toPyL ds)
def eqDL (a b : List D) : Bool := PyData.eqvAll (toPyL a) (toPyL b)
def sOk (z : Str) : Bool := z.cps.all (· < 0x110000)
@[simp] theorem clay_non : clay .non = true := (rfl)
@[simp] theorem clay_bl (b : Bool) : clay (.bl b) = true := (rfl)
@[simp] theorem clay_int (i : Int) : clay (.int i) = true := (rfl)
@[simp] theorem clay_str (z : Str) : clay (.str z) = sOk z := (rfl)
@[simp] theorem clay_tup (ds : List D) : clay (.tup ds) = clayL ds := by unfold clay clayL; simp [toPy, PyData.canLay0]
@[simp] theorem clay_lst (ds : List D) : clay (.lst ds) = clayL ds := by unfold clay clayL; simp [toPy, PyData.canLay0]
@[simp] theorem clayL_nil : clayL [] = true := (rfl)
@[simp] theorem clayL_cons (d : D) (ds : List D) : clayL (d :: ds) = (clay d && clayL ds) := by unfold clay clayL; simp [toPyL, PyData.canLayAll0]
@[simp] theorem dpt_non : dpt .non = 0 := (rfl)
@[simp] theorem dpt_bl (b : Bool) : dpt (.bl b) = 0 := (rfl)
@[simp] theorem dpt_int (i : Int) : dpt (.int i) = 0 := (rfl)
@[simp] theorem dpt_str (z : Str) : dpt (.str z) = 0 := (rfl)
@[simp] theorem dpt_tup (ds : List D) : dpt (.tup ds) = dptL ds + 1 := by unfold dpt dptL; simp [toPy, PyData.depth]
@[simp] theorem dpt_lst (ds : List D) : dpt (.lst ds) = dptL ds + 1 := by unfold dpt dptL; simp [toPy, PyData.depth]
@[simp] theorem dptL_nil : dptL [] = 0 := (rfl)
@[simp] theorem dptL_cons (d : D) (ds : List D) : dptL (d :: ds) = max (dpt d) (dptL ds) := by unfold dpt dptL; simp [toPyL, PyData.depthAll]
theorem shp_is (d : D) : shp d = (clay d && decide (dpt d ≤ 64)) := rfl
theorem clayL_all {ds : List D} : clayL ds = ds.all clay := by
  induction ds with
  | nil => rfl
  | cons d ds ih => rw [clayL_cons, ih]; rfl
theorem dptL_le {c : Nat} {ds : List D} (h : ∀ d ∈ ds, dpt d ≤ c) : dptL ds ≤ c := by
  induction ds with
  | nil => simp
  | cons d ds ih =>
    rw [dptL_cons]
    have h1 := h d (List.mem_cons_self ..)
    have h2 := ih fun e he => h e (List.mem_cons_of_mem _ he)
    omega
@[simp] theorem eq_tt (a b : List D) : eqD (.tup a) (.tup b) = eqDL a b := by unfold eqD eqDL; simp [toPy, PyData.eqv]
@[simp] theorem eq_ll (a b : List D) : eqD (.lst a) (.lst b) = eqDL a b := by unfold eqD eqDL; simp [toPy, PyData.eqv]
@[simp] theorem eq_nil : eqDL [] [] = true := (rfl)
@[simp] theorem eq_cons (x y : D) (xs ys : List D) : eqDL (x :: xs) (y :: ys) = (eqD x y && eqDL xs ys) := by unfold eqD eqDL; simp [toPyL, PyData.eqvAll]
@[simp] theorem eq_nc (y : D) (ys : List D) : eqDL [] (y :: ys) = false := by unfold eqDL; simp [toPyL, PyData.eqvAll]
@[simp] theorem eq_cn (y : D) (ys : List D) : eqDL (y :: ys) [] = false := by unfold eqDL; simp [toPyL, PyData.eqvAll]
theorem eq_ii (i j : Int) : eqD (.int i) (.int j) = decide (i = j) := x_eq_int i j
theorem eq_ss (i j : Str) : eqD (.str i) (.str j) = decide (i = j) := x_eq_str i j
theorem eq_is (i : Int) (j : Str) : eqD (.int i) (.str j) = false := rfl
theorem eq_si (i : Str) (j : Int) : eqD (.str i) (.int j) = false := rfl
theorem eq_bi (i : Bool) (j : Int) : eqD (.bl i) (.int j) = decide ((if i then 1 else 0) = j) := by
  show ((if i = true then (1 : Int) else 0) == j) = _
  cases i <;> simp <;> rfl
theorem eq_ib (j : Int) (i : Bool) : eqD (.int j) (.bl i) = decide (j = (if i then 1 else 0)) := by
  show (j == (if i = true then (1 : Int) else 0)) = _
  cases i <;> simp <;> rfl
theorem eq_bb (i j : Bool) : eqD (.bl i) (.bl j) = decide (i = j) := x_eq_bl i j
/-- == of two lists, or two tuples -/
theorem dEq_ll {a b : List D} (ha : clayL a = true) (hb : clayL b = true) (da : dptL a ≤ 63) (db : dptL b ≤ 63) : dEq (.lst a) (.lst b) = some (eqDL a b) := by
  unfold dEq
  rw [if_neg (by simp [flatX]), if_pos ⟨by rw [shp_is]; simp [ha]; omega, by rw [shp_is]; simp [hb]; omega⟩, eq_ll]
theorem dEq_tt {a b : List D} (ha : clayL a = true) (hb : clayL b = true) (da : dptL a ≤ 63) (db : dptL b ≤ 63) : dEq (.tup a) (.tup b) = some (eqDL a b) := by
  unfold dEq
  rw [if_neg (by simp [flatX]), if_pos ⟨by rw [shp_is]; simp [ha]; omega, by rw [shp_is]; simp [hb]; omega⟩, eq_tt]
theorem inL_is {d : D} {es : List D} (hd : clay d = true) (dd : dpt d ≤ 64) (he : clayL es = true) : inL d es = some (es.any fun e => eqD e d) := by
  unfold inL
  rw [if_pos ⟨by rw [shp_is]; simp [hd, dd], he⟩]
theorem in_lst {d : D} {es : List D} (hd : clay d = true) (dd : dpt d ≤ 64) (he : clayL es = true) : dIn d (.lst es) = some (es.any fun e => eqD e d) := by
  cases d <;> exact inL_is hd dd he
theorem in_tup {d : D} {es : List D} (hd : clay d = true) (dd : dpt d ≤ 64) (he : clayL es = true) : dIn d (.tup es) = some (es.any fun e => eqD e d) := by
  cases d <;> exact inL_is hd dd he
/-! names -/
theorem clay_strs {zs : List Str} (h : ∀ z ∈ zs, sOk z = true) : clayL (zs.map .str) = true := by
  rw [clayL_all, List.all_map, List.all_eq_true]
  exact fun z hz => h z hz
theorem clay_ints (is : List Int) : clayL (is.map .int) = true := by
  rw [clayL_all, List.all_map, List.all_eq_true]
  exact fun z hz => rfl
theorem any_strs (z : Str) (zs : List Str) : ((zs.map D.str).any fun e => eqD e (.str z)) = decide (z ∈ zs) := by
  rw [List.any_map]
  induction zs with
  | nil => simp
  | cons y ys ih =>
    rw [List.any_cons, ih]
    simp only [Function.comp, eq_ss, List.mem_cons]
    by_cases h : z = y
    · simp [h]
    · have : ¬ y = z := fun e => h e.symm
      simp [h, this]
theorem any_ints (z : Int) (zs : List Int) : ((zs.map D.int).any fun e => eqD e (.int z)) = decide (z ∈ zs) := by
  rw [List.any_map]
  induction zs with
  | nil => simp
  | cons y ys ih =>
    rw [List.any_cons, ih]
    simp only [Function.comp, eq_ii, List.mem_cons]
    by_cases h : z = y
    · simp [h]
    · have : ¬ y = z := fun e => h e.symm
      simp [h, this]
theorem in_strsL {z : Str} {zs : List Str} (h : sOk z = true) (hs : ∀ z ∈ zs, sOk z = true) : dIn (.str z) (.lst (zs.map .str)) = some (decide (z ∈ zs)) := by
  rw [in_lst (d := .str z) (show clay (.str z) = true from h) (by simp) (clay_strs hs), any_strs]
theorem in_strsT {z : Str} {zs : List Str} (h : sOk z = true) (hs : ∀ z ∈ zs, sOk z = true) : dIn (.str z) (.tup (zs.map .str)) = some (decide (z ∈ zs)) := by
  rw [in_tup (d := .str z) (show clay (.str z) = true from h) (by simp) (clay_strs hs), any_strs]
theorem in_intsL (i : Int) (is : List Int) : dIn (.int i) (.lst (is.map .int)) = some (decide (i ∈ is)) := by
  rw [in_lst rfl (by simp) (clay_ints is), any_ints]
theorem in_intsT (i : Int) (is : List Int) : dIn (.int i) (.tup (is.map .int)) = some (decide (i ∈ is)) := by
  rw [in_tup rfl (by simp) (clay_ints is), any_ints]
theorem Nam.ok {z : Str} (h : Nam z) : sOk z = true := by
  obtain ⟨c, cs, rfl, h1, h2, h3⟩ := h
  unfold sOk
  rw [List.all_toArray, List.all_eq_true]
  intro d hd
  have hl : ∀ e, letC e = true → e < 0x110000 := fun e he => by
    have : 97 ≤ e ∧ e ≤ 122 := by simpa [letC] using he
    omega
  have hg : ∀ e, digC e = true → e < 0x110000 := fun e he => by
    have : 48 ≤ e ∧ e ≤ 57 := by simpa [digC] using he
    omega
  have : d < 0x110000 := by
    rcases List.mem_cons.mp hd with rfl | hd
    · exact hl _ h1
    · rcases h3 d hd with q | q
      · exact hl _ q
      · exact hg _ q
  simpa using this
end Std

namespace K16
open PL PySem Std
theorem t_w (d : D) (h : noD d = true) : m_is_whole [d] = .ok (.v (.bl (isW d))) := Std.s_is_whole d h
theorem t_tup (d : D) (lo hi : Int) (h : noD d = true) : m_is_tuple_of [d, .int lo, .int hi] = .ok (.v (.bl (isTup lo hi d))) := Std.s_is_tuple_of d lo hi h
theorem lg {b : Int} (h : b.natAbs < 18446744073709551616) : b.natAbs.log2 < 9000 := by
  rcases Nat.eq_zero_or_pos b.natAbs with z | z
  · rw [z]; decide
  · exact Nat.lt_of_lt_of_le ((Nat.log2_lt (k := 64) (by omega)).mpr h) (by decide)
theorem divS (a : Int) {b : Int} (h0 : 0 < b) (h : b < 1000000000000000) : dDiv (.int a) (.int b) = some (.v (.int (a / b))) := by
  rw [x_div, if_pos ⟨h0, lg (by omega)⟩]
theorem lg2 {b : Int} {k : Nat} (h : b.natAbs < 2 ^ k) (hk : 0 < k) (k9 : k ≤ 9000) : b.natAbs.log2 < 9000 := by
  rcases Nat.eq_zero_or_pos b.natAbs with z | z
  · rw [z]; decide
  · exact Nat.lt_of_lt_of_le ((Nat.log2_lt (by omega)).mpr h) k9
theorem gstep (x y : Int) : Int.gcd y (x % y) = Int.gcd x y := by
  have h : x = x % y + y * (x / y) := by have := Int.emod_add_mul_ediv x y; omega
  rw [Int.gcd_comm x y]
  conv => rhs; rw [h]
  simp
end K16

namespace K16
open PL PySem Std
/-! ratios, in plain numbers -/
abbrev QQ := Int × Int
structure Rt (k : Nat) (p : QQ) : Prop where
  pos : 1 ≤ p.2
  g : Int.gcd p.1 p.2 = 1
  b1 : p.1.natAbs < 2 ^ k
  b2 : p.2.natAbs < 2 ^ k
theorem p2_le {k m : Nat} (h : k ≤ m) : 2 ^ k ≤ 2 ^ m := Nat.pow_le_pow_right (by omega) h
theorem Rt.le {k m : Nat} {p : QQ} (h : Rt k p) (l : k ≤ m) : Rt m p := ⟨h.pos, h.g, Nat.lt_of_lt_of_le h.b1 (p2_le l), Nat.lt_of_lt_of_le h.b2 (p2_le l)⟩
theorem uniq {p q : QQ} {k m : Nat} (hp : Rt k p) (hq : Rt m q) (h : p.1 * q.2 = q.1 * p.2) : p = q := by
  obtain ⟨a, b⟩ := p
  obtain ⟨c, d⟩ := q
  have hb : 1 ≤ b := hp.pos
  have hd : 1 ≤ d := hq.pos
  have g1 : Int.gcd a b = 1 := hp.g
  have g2 : Int.gcd c d = 1 := hq.g
  have h : a * d = c * b := h
  have k1 : b.natAbs ∣ d.natAbs := by
    have h1 : (b.natAbs).Coprime (a.natAbs) := by rw [Nat.Coprime, Nat.gcd_comm]; exact g1
    refine h1.dvd_of_dvd_mul_left ?_
    rw [← Int.natAbs_mul, h, Int.natAbs_mul]
    exact Nat.dvd_mul_left ..
  have k2 : d.natAbs ∣ b.natAbs := by
    have h1 : (d.natAbs).Coprime (c.natAbs) := by rw [Nat.Coprime, Nat.gcd_comm]; exact g2
    refine h1.dvd_of_dvd_mul_left ?_
    rw [← Int.natAbs_mul, ← h, Int.natAbs_mul]
    exact Nat.dvd_mul_left ..
  have e := Nat.dvd_antisymm k1 k2
  have e2 : b = d := by omega
  subst e2
  rw [Int.eq_of_mul_eq_mul_right (by omega) h]
def sgn (n d : Int) : Int := if d < 0 then -(Int.gcd n d : Int) else Int.gcd n d
def nrm (n d : Int) : QQ := (n / sgn n d, d / sgn n d)
theorem sgn_abs (n d : Int) : (sgn n d).natAbs = Int.gcd n d := by unfold sgn; split <;> omega
theorem sgn_dl (n d : Int) : sgn n d ∣ n := by
  have := Int.gcd_dvd_left n d
  unfold sgn; split
  · exact Int.neg_dvd.mpr this
  · exact this
theorem sgn_dr (n d : Int) : sgn n d ∣ d := by
  have := Int.gcd_dvd_right n d
  unfold sgn; split
  · exact Int.neg_dvd.mpr this
  · exact this
theorem sgn_ne {n d : Int} (h : d ≠ 0) : sgn n d ≠ 0 := fun e => by
  have := Int.gcd_pos_of_ne_zero_right n h
  have := sgn_abs n d
  rw [e] at this
  simp at this
  omega
theorem nrm_rt {n d : Int} {k : Nat} (h : d ≠ 0) (bn : n.natAbs < 2 ^ k) (bd : d.natAbs < 2 ^ k) : Rt k (nrm n d) := by
  have gp := Int.gcd_pos_of_ne_zero_right n h
  refine ⟨?_, ?_, Nat.lt_of_le_of_lt (Int.natAbs_ediv_le_natAbs _ _) bn, Nat.lt_of_le_of_lt (Int.natAbs_ediv_le_natAbs _ _) bd⟩
  · have e := Int.ediv_mul_cancel (sgn_dr n d)
    show 1 ≤ d / sgn n d
    generalize d / sgn n d = v at e
    by_cases hd : d < 0
    · have : sgn n d = -(Int.gcd n d : Int) := by unfold sgn; rw [if_pos hd]
      rw [this] at e
      rcases Int.lt_or_le v 1 with hv | hv
      · have hv : 0 ≤ -v := by omega
        have := Int.mul_nonneg hv (show (0 : Int) ≤ (Int.gcd n d : Int) by omega)
        grind
      · exact hv
    · have : sgn n d = (Int.gcd n d : Int) := by unfold sgn; rw [if_neg hd]
      rw [this] at e
      rcases Int.lt_or_le v 1 with hv | hv
      · have hv : 0 ≤ -v := by omega
        have := Int.mul_nonneg hv (show (0 : Int) ≤ (Int.gcd n d : Int) by omega)
        have : d ≤ 0 := by grind
        omega
      · exact hv
  · show Int.gcd (n / sgn n d) (d / sgn n d) = 1
    rw [Int.gcd_ediv (sgn_dl n d) (sgn_dr n d), sgn_abs]
    exact Nat.div_self gp
theorem nrm_eq {n d : Int} (h : d ≠ 0) : (nrm n d).1 * d = n * (nrm n d).2 := by
  have e1 := Int.ediv_mul_cancel (sgn_dl n d)
  have e2 := Int.ediv_mul_cancel (sgn_dr n d)
  show n / sgn n d * d = n * (d / sgn n d)
  generalize n / sgn n d = u at *
  generalize d / sgn n d = v at *
  generalize sgn n d = s at *
  grind
def pl (p q : QQ) : QQ := nrm (p.1 * q.2 + q.1 * p.2) (p.2 * q.2)
def mi (p q : QQ) : QQ := nrm (p.1 * q.2 - q.1 * p.2) (p.2 * q.2)
def ti (p q : QQ) : QQ := nrm (p.1 * q.1) (p.2 * q.2)
def ov (p q : QQ) : QQ := nrm (p.1 * q.2) (p.2 * q.1)
theorem mul_lt {a b : Int} {k m : Nat} (h1 : a.natAbs < 2 ^ k) (h2 : b.natAbs < 2 ^ m) : (a * b).natAbs < 2 ^ (k + m) := by
  rw [Int.natAbs_mul, Nat.pow_add]
  exact Nat.mul_lt_mul'' h1 h2
theorem add_lt {a b : Int} {k : Nat} (h1 : a.natAbs < 2 ^ k) (h2 : b.natAbs < 2 ^ k) : (a + b).natAbs < 2 ^ (k + 1) := by
  rw [Nat.pow_succ]; omega
theorem sub_lt {a b : Int} {k : Nat} (h1 : a.natAbs < 2 ^ k) (h2 : b.natAbs < 2 ^ k) : (a - b).natAbs < 2 ^ (k + 1) := by
  rw [Nat.pow_succ]; omega
theorem lt_le {a : Int} {k m : Nat} (h : a.natAbs < 2 ^ k) (l : k ≤ m) : a.natAbs < 2 ^ m := Nat.lt_of_lt_of_le h (p2_le l)
section
variable {k m : Nat} {p q : QQ} (hp : Rt k p) (hq : Rt m q)
include hp hq
theorem dd_ne : p.2 * q.2 ≠ 0 := Int.mul_ne_zero (by have := hp.pos; omega) (by have := hq.pos; omega)
theorem num_lt : (p.1 * q.2 + q.1 * p.2).natAbs < 2 ^ (k + m + 1) := add_lt (mul_lt hp.b1 hq.b2) (by have := mul_lt hq.b1 hp.b2; rwa [Nat.add_comm] at this)
theorem num_lt' : (p.1 * q.2 - q.1 * p.2).natAbs < 2 ^ (k + m + 1) := sub_lt (mul_lt hp.b1 hq.b2) (by have := mul_lt hq.b1 hp.b2; rwa [Nat.add_comm] at this)
theorem den_lt : (p.2 * q.2).natAbs < 2 ^ (k + m + 1) := lt_le (mul_lt hp.b2 hq.b2) (by omega)
theorem pl_rt : Rt (k + m + 1) (pl p q) := nrm_rt (dd_ne hp hq) (num_lt hp hq) (den_lt hp hq)
theorem mi_rt : Rt (k + m + 1) (mi p q) := nrm_rt (dd_ne hp hq) (num_lt' hp hq) (den_lt hp hq)
theorem ti_rt : Rt (k + m) (ti p q) := nrm_rt (dd_ne hp hq) (mul_lt hp.b1 hq.b1) (mul_lt hp.b2 hq.b2)
theorem ov_rt (h : q.1 ≠ 0) : Rt (k + m) (ov p q) := nrm_rt (Int.mul_ne_zero (by have := hp.pos; omega) h) (mul_lt hp.b1 hq.b2) (mul_lt hp.b2 hq.b1)
end
/-- p stands for n / d -/
def Rep (p : QQ) (n d : Int) : Prop := p.1 * d = n * p.2
theorem rep_self (p : QQ) : Rep p p.1 p.2 := rfl
theorem rep_pl {p q : QQ} {k m : Nat} (hp : Rt k p) (hq : Rt m q) {n d n' d' : Int} (h1 : Rep p n d) (h2 : Rep q n' d') : Rep (pl p q) (n * d' + n' * d) (d * d') := by
  have e := nrm_eq (n := p.1 * q.2 + q.1 * p.2) (dd_ne hp hq)
  have z := dd_ne hp hq
  unfold Rep at *
  show (nrm (p.1 * q.2 + q.1 * p.2) (p.2 * q.2)).1 * (d * d') = (n * d' + n' * d) * (nrm (p.1 * q.2 + q.1 * p.2) (p.2 * q.2)).2
  generalize nrm (p.1 * q.2 + q.1 * p.2) (p.2 * q.2) = y at *
  refine Int.eq_of_mul_eq_mul_right z ?_
  obtain ⟨p1, p2⟩ := p
  obtain ⟨q1, q2⟩ := q
  obtain ⟨y1, y2⟩ := y
  simp only at *
  grind
theorem rep_ti {p q : QQ} {k m : Nat} (hp : Rt k p) (hq : Rt m q) {n d n' d' : Int} (h1 : Rep p n d) (h2 : Rep q n' d') : Rep (ti p q) (n * n') (d * d') := by
  have e := nrm_eq (n := p.1 * q.1) (dd_ne hp hq)
  have z := dd_ne hp hq
  unfold Rep at *
  show (nrm (p.1 * q.1) (p.2 * q.2)).1 * (d * d') = (n * n') * (nrm (p.1 * q.1) (p.2 * q.2)).2
  generalize nrm (p.1 * q.1) (p.2 * q.2) = y at *
  refine Int.eq_of_mul_eq_mul_right z ?_
  obtain ⟨p1, p2⟩ := p
  obtain ⟨q1, q2⟩ := q
  obtain ⟨y1, y2⟩ := y
  simp only at *
  grind
theorem rep_uniq {p q : QQ} {k m : Nat} (hp : Rt k p) (hq : Rt m q) {n d n' d' : Int} (hd : d ≠ 0) (hd' : d' ≠ 0) (h1 : Rep p n d) (h2 : Rep q n' d') (h : n * d' = n' * d) : p = q := by
  refine uniq hp hq ?_
  unfold Rep at *
  obtain ⟨p1, p2⟩ := p
  obtain ⟨q1, q2⟩ := q
  simp only at *
  refine Int.eq_of_mul_eq_mul_right (Int.mul_ne_zero hd hd') ?_
  grind
end K16

namespace K16
open PL PySem Std
def qX (b : Bool) (p : QQ) : D := if b then .ktp [.int p.1, .int p.2] else .tup [.int p.1, .int p.2]
def qD (p : QQ) : D := .tup [.int p.1, .int p.2]
theorem qX_f (p : QQ) : qX false p = qD p := rfl
theorem mulB {a b : Int} {k m : Nat} (h1 : a.natAbs < 2 ^ k) (h2 : b.natAbs < 2 ^ m) (hk : k + m ≤ 20000) : dMul (.int a) (.int b) = some (.v (.int (a * b))) := by
  have lz : ∀ {c : Int} {k : Nat}, c.natAbs < 2 ^ k → c.natAbs.log2 ≤ k := fun {c k} h => by
    rcases Nat.eq_zero_or_pos c.natAbs with z | z
    · rw [z]; simp
    · exact Nat.le_of_lt ((Nat.log2_lt (by omega)).mpr h)
  have := lz h1
  have := lz h2
  rw [x_mul, if_pos (show mulOk a b from Or.inr (Or.inr (by omega)))]
theorem div_sgn {n d : Int} {k : Nat} (h : d ≠ 0) (hd : d.natAbs < 2 ^ k) (k0 : 0 < k) (hk : k ≤ 8000) : dDiv (.int n) (.int (sgn n d)) = some (.v (.int (nrm n d).1)) ∧ dDiv (.int d) (.int (sgn n d)) = some (.v (.int (nrm n d).2)) := by
  have gl : Int.gcd n d ≤ d.natAbs := Nat.gcd_le_right _ (by omega)
  have l9 : (sgn n d).natAbs.log2 < 9000 := lg2 (k := k) (by rw [sgn_abs]; omega) k0 (by omega)
  have ne := sgn_ne (n := n) h
  have key : ∀ x : Int, sgn n d ∣ x → dDiv (.int x) (.int (sgn n d)) = some (.v (.int (x / sgn n d))) := fun x hx => by
    rw [x_div]
    by_cases c : 0 < sgn n d
    · rw [if_pos ⟨c, l9⟩]
    · rw [if_neg (fun z => c z.1), if_pos ⟨ne, .inr l9⟩, Int.fdiv_eq_ediv_of_dvd hx]
  exact ⟨key n (sgn_dl n d), key d (sgn_dr n d)⟩
theorem s_ratio {n d : Int} {k : Nat} (h : d ≠ 0) (hd : d.natAbs < 2 ^ k) (k0 : 0 < k) (hk : k ≤ 8000) : m_ratio [.int n, .int d] = .ok (.v (qD (nrm n d))) := by
  obtain ⟨e1, e2⟩ := div_sgn (n := n) h hd k0 hk
  have w1 := t_w (.int n) rfl
  have w2 := t_w (.int d) rfl
  by_cases c : d < 0
  · have es : sgn n d = -(Int.gcd n d : Int) := by unfold sgn; rw [if_pos c]
    rw [es] at e1 e2
    have e1 : dDiv (.int n) (.int (-((n.natAbs.gcd d.natAbs : Nat) : Int))) = _ := e1
    have e2 : dDiv (.int d) (.int (-((n.natAbs.gcd d.natAbs : Nat) : Int))) = _ := e2
    simp [-x_div, m_ratio, b_ratio, w1, w2, h, c, e1, e2, qD]
  · have es : sgn n d = (Int.gcd n d : Int) := by unfold sgn; rw [if_neg c]
    rw [es] at e1 e2
    have e1 : dDiv (.int n) (.int ((n.natAbs.gcd d.natAbs : Nat) : Int)) = _ := e1
    have e2 : dDiv (.int d) (.int ((n.natAbs.gcd d.natAbs : Nat) : Int)) = _ := e2
    simp [-x_div, m_ratio, b_ratio, w1, w2, h, c, e1, e2, qD]
theorem q0 (b : Bool) (p : QQ) : dIx (qX b p) (.int 0) = some (.v (.int p.1)) := by cases b <;> simp [qX]
theorem q1 (b : Bool) (p : QQ) : dIx (qX b p) (.int 1) = some (.v (.int p.2)) := by cases b <;> simp [qX]
theorem s_is_ratio {k : Nat} {p : QQ} (h : Rt k p) (b : Bool) : m_is_ratio [qX b p] = .ok (.v (.bl true)) := by
  have t : m_is_tuple_of [qX b p, .int 2, .int 2] = .ok (.v (.bl true)) := by cases b <;> exact t_tup _ 2 2 rfl
  have w1 := t_w (.int p.1) rfl
  have w2 := t_w (.int p.2) rfl
  have c : ¬ p.2 < 1 := by have := h.pos; omega
  have g : p.1.natAbs.gcd p.2.natAbs = 1 := h.g
  simp [m_is_ratio, b_is_ratio, q0, q1, t, w1, w2, c, g]
theorem s_check {k : Nat} {p : QQ} (h : Rt k p) (b : Bool) : m_check_ratio [qX b p] = .ok (.v .non) := by
  have e := s_is_ratio h b
  simp [m_check_ratio, b_check_ratio, e]
def cmp (p q : QQ) : Int := if p.1 * q.2 < q.1 * p.2 then -1 else if q.1 * p.2 < p.1 * q.2 then 1 else 0
section
variable {k m : Nat} {p q : QQ} (hp : Rt k p) (hq : Rt m q) (hk : k + m < 4000) (b1 b2 : Bool)
include hp hq hk
theorem s_plus : m_plus [qX b1 p, qX b2 q] = .ok (.v (qD (pl p q))) := by
  have e := s_ratio (n := p.1 * q.2 + q.1 * p.2) (dd_ne hp hq) (den_lt hp hq) (by omega) (by omega)
  have a1 := mulB hp.b1 hq.b2 (by omega)
  have a2 := mulB hq.b1 hp.b2 (by omega)
  have a3 := mulB hp.b2 hq.b2 (by omega)
  simp [-x_mul, m_plus, b_plus, s_check hp, s_check hq, q0, q1, a1, a2, a3, e, pl]
theorem s_minus : m_minus [qX b1 p, qX b2 q] = .ok (.v (qD (mi p q))) := by
  have e := s_ratio (n := p.1 * q.2 - q.1 * p.2) (dd_ne hp hq) (den_lt hp hq) (by omega) (by omega)
  have a1 := mulB hp.b1 hq.b2 (by omega)
  have a2 := mulB hq.b1 hp.b2 (by omega)
  have a3 := mulB hp.b2 hq.b2 (by omega)
  simp [-x_mul, m_minus, b_minus, s_check hp, s_check hq, q0, q1, a1, a2, a3, e, mi]
theorem s_cmp : m_compare [qX b1 p, qX b2 q] = .ok (.v (.int (cmp p q))) := by
  have a1 := mulB hp.b1 hq.b2 (by omega)
  have a2 := mulB hq.b1 hp.b2 (by omega)
  by_cases c : p.1 * q.2 < q.1 * p.2
  · simp [-x_mul, m_compare, b_compare, s_check hp, s_check hq, q0, q1, a1, a2, cmp, c]
  · by_cases c2 : q.1 * p.2 < p.1 * q.2
    · simp [-x_mul, m_compare, b_compare, s_check hp, s_check hq, q0, q1, a1, a2, cmp, c, c2]
    · simp [-x_mul, m_compare, b_compare, s_check hp, s_check hq, q0, q1, a1, a2, cmp, c, c2]
theorem s_lesser : m_lesser [qX b1 p, qX b2 q] = .ok (.v (if cmp p q ≤ 0 then qX b1 p else qX b2 q)) := by
  have e := s_cmp hp hq hk b1 b2
  by_cases c : cmp p q ≤ 0 <;> simp [m_lesser, b_lesser, e, c]
theorem s_larger : m_larger [qX b1 p, qX b2 q] = .ok (.v (if cmp p q ≥ 0 then qX b1 p else qX b2 q)) := by
  have e := s_cmp hp hq hk b1 b2
  by_cases c : cmp p q ≥ 0 <;> simp [m_larger, b_larger, e, c]
end
/-! numbers over one unit -/
structure Un (u : Int) : Prop where
  lo : 1 ≤ u
  hi : u ≤ 60000
def R (u v : Int) : QQ := nrm v u
def qR (u v : Int) : D := qD (R u v)
section
variable {u : Int} (hu : Un u)
include hu
theorem R_rt {v : Int} (hv : v.natAbs < 1000000) : Rt 30 (R u v) := nrm_rt (by have := hu.lo; omega) (by omega) (by have := hu.lo; have := hu.hi; omega)
theorem R_rep (v : Int) : Rep (R u v) v u := nrm_eq (by have := hu.lo; omega)
theorem R_zero : R u 0 = (0, 1) := by
  have := hu.lo
  unfold R nrm sgn
  rw [if_neg (by omega), Int.gcd_zero_left]
  simp
  have e : (u.natAbs : Int) = u := by omega
  rw [e]
  exact Int.ediv_self (by omega)
theorem R_cmp {a b : Int} (ha : a.natAbs < 1000000) (hb : b.natAbs < 1000000) : cmp (R u a) (R u b) = if a < b then -1 else if b < a then 1 else 0 := by
  have u0 := hu.lo
  have p1 := (R_rt hu ha).pos
  have p2 := (R_rt hu hb).pos
  have r1 := R_rep hu a
  have r2 := R_rep hu b
  unfold Rep at r1 r2
  have key : ∀ x y : Int, (R u x).1 * u = x * (R u x).2 → (R u y).1 * u = y * (R u y).2 → 1 ≤ (R u x).2 → 1 ≤ (R u y).2 → ((R u x).1 * (R u y).2 < (R u y).1 * (R u x).2 ↔ x < y) := fun x y h1 h2 h3 h4 => by
    generalize R u x = p at *
    generalize R u y = q at *
    obtain ⟨p1, p2⟩ := p
    obtain ⟨q1, q2⟩ := q
    simp only at *
    have hpq : 0 < p2 * q2 := Int.mul_pos (by omega) (by omega)
    have e1 : p1 * q2 * u = x * (p2 * q2) := by grind
    have e2 : q1 * p2 * u = y * (p2 * q2) := by grind
    constructor
    · intro h
      have := Int.mul_lt_mul_of_pos_right h (show 0 < u by omega)
      rw [e1, e2] at this
      exact Int.lt_of_mul_lt_mul_right this (by omega)
    · intro h
      have := Int.mul_lt_mul_of_pos_right h hpq
      rw [← e1, ← e2] at this
      exact Int.lt_of_mul_lt_mul_right this (by omega)
  have k1 := key a b r1 r2 p1 p2
  have k2 := key b a r2 r1 p2 p1
  unfold cmp
  by_cases c : a < b
  · rw [if_pos (k1.mpr c), if_pos c]
  · rw [if_neg (fun z => c (k1.mp z)), if_neg c]
    by_cases c2 : b < a
    · rw [if_pos (k2.mpr c2), if_pos c2]
    · rw [if_neg (fun z => c2 (k2.mp z)), if_neg c2]
theorem u_ne : u ≠ 0 := by have := hu.lo; omega
theorem R_pl {a b : Int} (ha : a.natAbs < 400000) (hb : b.natAbs < 400000) : pl (R u a) (R u b) = R u (a + b) := by
  have r := rep_pl (R_rt hu (v := a) (by omega)) (R_rt hu (v := b) (by omega)) (R_rep hu a) (R_rep hu b)
  have z := u_ne hu
  exact rep_uniq (pl_rt (R_rt hu (v := a) (by omega)) (R_rt hu (v := b) (by omega))) (R_rt hu (v := a + b) (by omega)) (Int.mul_ne_zero z z) z r (R_rep hu (a + b)) (by grind)
theorem R_mi {a b : Int} (ha : a.natAbs < 400000) (hb : b.natAbs < 400000) : mi (R u a) (R u b) = R u (a - b) := by
  have hp := R_rt hu (v := a) (by omega)
  have hq := R_rt hu (v := b) (by omega)
  have e : Rep (mi (R u a) (R u b)) ((R u a).1 * (R u b).2 - (R u b).1 * (R u a).2) ((R u a).2 * (R u b).2) := nrm_eq (dd_ne hp hq)
  have z := u_ne hu
  have r1 := R_rep hu a
  have r2 := R_rep hu b
  refine rep_uniq (mi_rt hp hq) (R_rt hu (v := a - b) (by omega)) (dd_ne hp hq) z e (R_rep hu (a - b)) ?_
  unfold Rep at r1 r2
  generalize R u a = p at *
  generalize R u b = q at *
  obtain ⟨p1, p2⟩ := p
  obtain ⟨q1, q2⟩ := q
  simp only at *
  grind
theorem qX_R (v : Int) : qX false (R u v) = qR u v := rfl
theorem r_plus {a b : Int} (ha : a.natAbs < 400000) (hb : b.natAbs < 400000) : m_plus [qR u a, qR u b] = .ok (.v (qR u (a + b))) := by
  have := s_plus (R_rt hu (v := a) (by omega)) (R_rt hu (v := b) (by omega)) (by omega) false false
  rw [R_pl hu ha hb] at this
  exact this
theorem r_minus {a b : Int} (ha : a.natAbs < 400000) (hb : b.natAbs < 400000) : m_minus [qR u a, qR u b] = .ok (.v (qR u (a - b))) := by
  have := s_minus (R_rt hu (v := a) (by omega)) (R_rt hu (v := b) (by omega)) (by omega) false false
  rw [R_mi hu ha hb] at this
  exact this
theorem r_negZ {a : Int} (ha : a.natAbs < 400000) : m_minus [.ktp [.int 0, .int 1], qR u a] = .ok (.v (qR u (-a))) := by
  have := s_minus (R_rt hu (v := 0) (by omega)) (R_rt hu (v := a) (by omega)) (by omega) true false
  rw [R_mi hu (by omega) ha, R_zero hu, Int.zero_sub] at this
  exact this
theorem r_cmp {a b : Int} (ha : a.natAbs < 1000000) (hb : b.natAbs < 1000000) : m_compare [qR u a, qR u b] = .ok (.v (.int (if a < b then -1 else if b < a then 1 else 0))) := by
  have := s_cmp (R_rt hu ha) (R_rt hu hb) (by omega) false false
  rw [R_cmp hu ha hb] at this
  exact this
theorem r_larger {a b : Int} (ha : a.natAbs < 1000000) (hb : b.natAbs < 1000000) : m_larger [qR u a, qR u b] = .ok (.v (qR u (if a < b then b else a))) := by
  have := s_larger (R_rt hu ha) (R_rt hu hb) (by omega) false false
  rw [R_cmp hu ha hb] at this
  have this : m_larger [qR u a, qR u b] = _ := this
  rw [this]
  by_cases c : a < b
  · simp [c, qX_R hu]
  · by_cases c2 : b < a <;> simp [c, c2, qX_R hu]
theorem r_lesser {a b : Int} (ha : a.natAbs < 1000000) (hb : b.natAbs < 1000000) : m_lesser [qR u a, qR u b] = .ok (.v (qR u (if b < a then b else a))) := by
  have := s_lesser (R_rt hu ha) (R_rt hu hb) (by omega) false false
  rw [R_cmp hu ha hb] at this
  have this : m_lesser [qR u a, qR u b] = _ := this
  rw [this]
  by_cases c : a < b
  · have c2 : ¬ b < a := by omega
    simp [c, c2, qX_R hu]
  · by_cases c2 : b < a <;> simp [c, c2, qX_R hu]
end
end K16

namespace K16
open PL PySem Std
/-! the drawn numbers -/
def Pl (xs : List Int) : Prop := (∀ x ∈ xs, 0 ≤ x ∧ x < 1000) ∧ xs.length ≤ 100000
def JP1 (A : Option S) (c : Option S) (n i : Nat) (ρ : Rho) : Prop := ∃ (xs : List Int) (r : Int) (v4 : Option S), (∀ x ∈ xs, 0 ≤ x ∧ x < 1000) ∧ xs.length ≤ n + i ∧ 0 ≤ r ∧ ρ = [A, some (.o (.lst (xs.map .int))), c, some (.v (.int r)), v4]
def JP2 (A : Option S) (i : Nat) (ρ : Rho) : Prop := ∃ (xs : List Int) (v2 v3 v4 : Option S), (∀ x ∈ xs, 0 ≤ x ∧ x < 1000) ∧ xs.length ≤ 40 * i ∧ ρ = [A, some (.o (.lst (xs.map .int))), v2, v3, v4]
theorem p1_turn (A c : Option S) (n i : Nat) (hn : n + i < 10000) (xs : List Int) (r : Int) (hx : ∀ x ∈ xs, 0 ≤ x ∧ x < 1000) (hl : xs.length ≤ n + i) (hr : 0 ≤ r) :
    Ev (b__law_pool_f1 [A, some (.o (.lst (xs.map .int))), c, some (.v (.int r)), some (.v (.int (i : Int)))]) (fun q => ∃ ρ, q = .next ρ ∧ JP1 A c n (i + 1) ρ) := by
  have d1 := divS r (b := 1000) (by decide) (by decide)
  have hl' : xs.length < 16777216 := by omega
  have fin : JP1 A c n (i + 1) [A, some (.o (.lst (xs.map .int ++ [.int (r % 1000)]))), c, some (.v (.int (r / 1000))), some (.v (.int (i : Int)))] := ⟨xs ++ [r % 1000], r / 1000, _, fun x h => by
    rcases List.mem_append.mp h with h | h
    · exact hx x h
    · cases List.mem_singleton.mp h; omega, by simp; omega, by omega, by rw [List.map_append]; rfl⟩
  by_cases c1 : 0 < r
  · simp [-x_div, b__law_pool_f1, c1, d1, hl']
    exact fin
  · by_cases c2 : (i : Int) = 0
    · simp [-x_div, b__law_pool_f1, c1, c2, d1, hl']
      rw [c2] at fin
      exact fin
    · have c2' : ¬ i = 0 := by omega
      simp [-x_div, b__law_pool_f1, c1, c2, c2']
      exact ⟨xs, r, _, hx, by omega, hr, rfl⟩
theorem s_pool (ns : List Int) (hl : ns.length ≤ 63) : ∃ xs : List Int, Pl xs ∧ m__law_pool [.scr ns] = .ok (.o (.lst (xs.map .int))) := by
  have key : Ev (m__law_pool [.scr ns]) (fun s => ∃ xs : List Int, Pl xs ∧ s = .o (.lst (xs.map .int))) := by
    have c63 : PL.cutG ns none (some 63) = ns := by rw [cutG_to (by decide)]; exact List.take_of_length_le (by simpa using hl)
    have x4 : int1 [.int 40] = some 40 := x_int1' _ (by decide)
    simp [m__law_pool, b__law_pool, c63]
    refine lp_v ns (h := D.int) (J := JP2 (some (.v (.scr ns)))) rfl ⟨[], none, none, none, by simp, by simp, rfl⟩ ?_ ?_
    · rintro i c _ hc ⟨xs, v2, v3, v4, hx, hl2, rfl⟩
      have hi := (List.getElem?_eq_some_iff.mp hc).1
      have c0 : 0 ≤ (if c < 0 then -c else c) := by split <;> omega
      simp [b__law_pool_f2, x4]
      refine rg_a (J := JP1 (some (.v (.scr ns))) (some (.v (.int c))) (40 * i)) ⟨xs, _, v4, hx, by omega, c0, rfl⟩ ?_ ?_
      · rintro j _ hj ⟨xs, r, v4, hx, hl2, hr, rfl⟩
        obtain ⟨q, e, ρ, rfl, h2⟩ := p1_turn (some (.v (.scr ns))) (some (.v (.int c))) (40 * i) j (by omega) xs r hx hl2 hr
        simp [e]
        exact h2
      · rintro _ ⟨xs, r, v4, hx, hl2, hr, rfl⟩
        simp
        exact ⟨xs, _, _, _, hx, by have : xs.length ≤ 40 * i + 40 := hl2; omega, rfl⟩
    · rintro _ ⟨xs, v2, v3, v4, hx, hl2, rfl⟩
      have ct : cutG (xs.map D.int) none (some 240) = (xs.take 240).map D.int := by rw [cutG_to (by omega)]; simp
      simp [ct]
      exact ⟨xs.take 240, ⟨fun x h => hx x (List.mem_of_mem_take h), by simp; omega⟩, by simp⟩
  obtain ⟨s, e, xs, h, rfl⟩ := key
  exact ⟨xs, h, e⟩
theorem s_at {xs : List Int} (h : Pl xs) (k : Int) (h0 : 0 ≤ k) (h1 : k ≤ 100000) : ∃ x : Int, 0 ≤ x ∧ x < 1000 ∧ m__law_at [.lst (xs.map .int), .int k] = .ok (.v (.int x)) := by
  have m1 : dMul (.int 37) (.int k) = some (.v (.int (37 * k))) := x_mulL (by decide)
  have m2 : dMul (.int k) (.int k) = some (.v (.int (k * k))) := x_mulL (by omega)
  have m3 : ∀ a : Int, dMul (.int a) (.int 48271) = some (.v (.int (a * 48271))) := fun a => x_mulR (by decide)
  have m4 : ∀ a : Int, dMul (.int (a % 2147483647)) (.int (a % 2147483647)) = some (.v (.int (a % 2147483647 * (a % 2147483647)))) := fun a => x_mulL (by omega)
  have m5 : ∀ a : Int, dMul (.int (a % 2147483629)) (.int (a % 2147483629)) = some (.v (.int (a % 2147483629 * (a % 2147483629)))) := fun a => x_mulL (by omega)
  have d1 := fun a => divS a (b := 11) (by decide) (by decide)
  by_cases c : k < xs.length
  · obtain ⟨x, g, m⟩ := atI_ex (xs := xs) h0 c
    have g := atI_map' D.int g
    exact ⟨x, (h.1 x m).1, (h.1 x m).2, by simp [m__law_at, b__law_at, c, g]⟩
  · have key : Ev (m__law_at [.lst (xs.map .int), .int k]) (fun s => ∃ x : Int, (0 ≤ x ∧ x < 1000) ∧ s = .v (.int x)) := by
      by_cases c2 : 0 < xs.length
      · have hne : ¬ xs = [] := fun e => by rw [e] at c2; cases c2
        have lb : 0 ≤ k % (xs.length : Int) := Int.emod_nonneg _ (by omega)
        have ll := Int.emod_lt_of_pos k (show (0 : Int) < xs.length by omega)
        obtain ⟨y, g, m⟩ := atI_ex (xs := xs) lb ll
        have g := atI_map' D.int g
        have b := h.1 y m
        have m6 : ∀ z : Int, dMul (.int (y + 5)) (.int z) = some (.v (.int ((y + 5) * z))) := fun z => x_mulL (by omega)
        simp [-x_mul, -x_div, m__law_at, b__law_at, c, c2, hne, g, m1, m2, m3, m4, m5, m6, d1]
        omega
      · have c2' : xs.length = 0 := by omega
        have hne : xs = [] := List.length_eq_zero_iff.mp c2'
        simp [-x_mul, -x_div, m__law_at, b__law_at, c, c2, hne, m1, m2, m3, m4, m5, d1]
        have c' : ¬ k < 0 := by omega
        simp [-x_mul, -x_div, c', m1, m2, m3, m4, m5, d1]
        omega
    obtain ⟨s, e, x, ⟨b0, b1⟩, rfl⟩ := key
    exact ⟨x, b0, b1, e⟩
end K16

namespace K16
open PL PySem Std
/-! terms -/
def pI (r : Int × Int) : D := .tup [.int r.1, .int r.2]
structure Tm where
  sg : Int
  rs : List (Int × Int)
def tD (t : Tm) : D := .tup [.int t.sg, .lst (t.rs.map pI)]
def GR (r : Int × Int) : Prop := -100 ≤ r.1 ∧ r.1 ≤ r.2 ∧ r.2 ≤ 100
structure GT (t : Tm) : Prop where
  sg : t.sg = 1 ∨ t.sg = -1
  ne : 0 < t.rs.length
  len : t.rs.length ≤ 4
  rd : ∀ r ∈ t.rs, GR r
theorem at7 (d : Int) (h0 : 0 ≤ d) (h : d < 7) : ∃ u : Int, (Un u ∧ u ≤ 1000) ∧ L2.atI [D.int 1, D.int 2, D.int 3, D.int 12, D.int 60, D.int 997, D.int 1000] d = some (.int u) := by
  have : d = 0 ∨ d = 1 ∨ d = 2 ∨ d = 3 ∨ d = 4 ∨ d = 5 ∨ d = 6 := by omega
  rcases this with rfl | rfl | rfl | rfl | rfl | rfl | rfl
  · exact ⟨1, ⟨⟨by omega, by omega⟩, by omega⟩, rfl⟩
  · exact ⟨2, ⟨⟨by omega, by omega⟩, by omega⟩, rfl⟩
  · exact ⟨3, ⟨⟨by omega, by omega⟩, by omega⟩, rfl⟩
  · exact ⟨12, ⟨⟨by omega, by omega⟩, by omega⟩, rfl⟩
  · exact ⟨60, ⟨⟨by omega, by omega⟩, by omega⟩, rfl⟩
  · exact ⟨997, ⟨⟨by omega, by omega⟩, by omega⟩, rfl⟩
  · exact ⟨1000, ⟨⟨by omega, by omega⟩, by omega⟩, rfl⟩
theorem at6 (d : Int) (h0 : 0 ≤ d) (h : d < 6) : ∃ n : Nat, n ≤ 3 ∧ L2.atI [D.int 0, D.int 0, D.int 1, D.int 1, D.int 2, D.int 3] d = some (.int (n : Int)) := by
  have : d = 0 ∨ d = 1 ∨ d = 2 ∨ d = 3 ∨ d = 4 ∨ d = 5 := by omega
  rcases this with rfl | rfl | rfl | rfl | rfl | rfl
  · exact ⟨0, by omega, rfl⟩
  · exact ⟨0, by omega, rfl⟩
  · exact ⟨1, by omega, rfl⟩
  · exact ⟨1, by omega, rfl⟩
  · exact ⟨2, by omega, rfl⟩
  · exact ⟨3, by omega, rfl⟩
theorem at3 (d : Int) (h0 : 0 ≤ d) (h : d < 3) : ∃ n : Int, (n = 1 ∨ n = -1) ∧ L2.atI [D.int 1, D.int 1, D.int (-1)] d = some (.int n) := by
  have : d = 0 ∨ d = 1 ∨ d = 2 := by omega
  rcases this with rfl | rfl | rfl
  · exact ⟨1, by omega, rfl⟩
  · exact ⟨1, by omega, rfl⟩
  · exact ⟨-1, by omega, rfl⟩
def JS1 (xs : List Int) (k u : Int) (ts : List Tm) (j : Nat) (pk lo hi : Int) (i : Nat) (ρ : Rho) : Prop := ∃ (rs : List (Int × Int)) (v9 v10 v11 : Option S), (∀ r ∈ rs, GR r) ∧ rs.length = 1 + i ∧
  ρ = [some (.v (.lst (xs.map .int))), some (.v (.int k)), some (.v (.int u)), some (.o (.lst (ts.map tD))), some (.v (.int (j : Int))), some (.v (.int pk)), some (.v (.int lo)), some (.v (.int hi)), some (.o (.lst (rs.map pI))), v9, v10, v11]
theorem st1_turn {xs : List Int} (h : Pl xs) (k u : Int) (k0 : 0 ≤ k) (k1 : k ≤ 1000) (ts : List Tm) (j : Nat) (hj : j < 6) (pk lo hi : Int) (p0 : 0 ≤ pk) (p1 : pk < 1000) (l0 : -20 ≤ lo ∧ lo ≤ 40) (h0 : lo ≤ hi ∧ hi ≤ lo + 12) (i : Nat) (hi3 : i < 3) (rs : List (Int × Int)) (hr : ∀ r ∈ rs, GR r) (hl : rs.length = 1 + i) (v10 v11 : Option S) :
    Ev (b__law_strike_f1 [some (.v (.lst (xs.map .int))), some (.v (.int k)), some (.v (.int u)), some (.o (.lst (ts.map tD))), some (.v (.int (j : Int))), some (.v (.int pk)), some (.v (.int lo)), some (.v (.int hi)), some (.o (.lst (rs.map pI))), some (.v (.int (i : Int))), v10, v11]) (fun q => ∃ ρ, q = .next ρ ∧ JS1 xs k u ts j pk lo hi (i + 1) ρ) := by
  obtain ⟨x, x0, x1, ex⟩ := s_at h (k + 4 + 6 * (j : Int)) (by omega) (by omega)
  obtain ⟨y, y0, y1, ey⟩ := s_at h (k + 5 + 6 * (j : Int)) (by omega) (by omega)
  have m6 : ∀ z : Int, dMul (.int 6) (.int z) = some (.v (.int (6 * z))) := fun z => x_mulL (by decide)
  have m9 : ∀ z : Int, dMul (.int 9) (.int z) = some (.v (.int (9 * z))) := fun z => x_mulL (by decide)
  have m7 : ∀ z : Int, dMul (.int 7) (.int z) = some (.v (.int (7 * z))) := fun z => x_mulL (by decide)
  have mh : ∀ z : Int, dMul (.int (hi - lo)) (.int z) = some (.v (.int ((hi - lo) * z))) := fun z => x_mulL (by omega)
  have d1 := divS x (b := 1 + 9 * (i : Int)) (by omega) (by omega)
  have d2 := divS y (b := 1 + 7 * (i : Int)) (by omega) (by omega)
  have d3 := divS pk (b := 6) (by omega) (by omega)
  have hl' : rs.length < 16777216 := by omega
  have b1 : 0 ≤ x / (1 + 9 * (i : Int)) % 9 ∧ x / (1 + 9 * (i : Int)) % 9 < 9 := by omega
  have b2 : 0 ≤ y / (1 + 7 * (i : Int)) % 7 ∧ y / (1 + 7 * (i : Int)) % 7 < 7 := by omega
  have b3 : pk / 6 % 2 = 0 ∨ pk / 6 % 2 = 1 := by omega
  simp [-x_mul, -x_div, b__law_strike_f1, m6, m9, m7, mh, ex, ey, d1, d2, d3, hl']
  generalize x / (1 + 9 * (i : Int)) % 9 = s at *
  generalize y / (1 + 7 * (i : Int)) % 7 = w at *
  have g : GR (lo + (s - 4), lo + (s - 4) + w + (hi - lo) * (pk / 6 % 2)) := by
    unfold GR
    rcases b3 with e | e <;> rw [e] <;> simp <;> omega
  refine ⟨rs ++ [(lo + (s - 4), lo + (s - 4) + w + (hi - lo) * (pk / 6 % 2))], _, _, _, fun r hr' => ?_, by simp; omega, by rw [List.map_append]; rfl⟩
  rcases List.mem_append.mp hr' with q | q
  · exact hr r q
  · cases List.mem_singleton.mp q; exact g
def JS2 (xs : List Int) (k u : Int) (i : Nat) (ρ : Rho) : Prop := ∃ (ts : List Tm) (v4 v5 v6 v7 v8 v9 v10 v11 : Option S), (∀ t ∈ ts, GT t) ∧ ts.length = i ∧
  ρ = [some (.v (.lst (xs.map .int))), some (.v (.int k)), some (.v (.int u)), some (.o (.lst (ts.map tD))), v4, v5, v6, v7, v8, v9, v10, v11]
theorem st2_turn {xs : List Int} (h : Pl xs) (k u : Int) (k0 : 0 ≤ k) (k1 : k ≤ 1000) (j : Nat) (hj : j < 6) (ts : List Tm) (ht : ∀ t ∈ ts, GT t) (hl : ts.length = j) (v5 v6 v7 v8 v9 v10 v11 : Option S) :
    Ev (b__law_strike_f2 [some (.v (.lst (xs.map .int))), some (.v (.int k)), some (.v (.int u)), some (.o (.lst (ts.map tD))), some (.v (.int (j : Int))), v5, v6, v7, v8, v9, v10, v11]) (fun q => ∃ ρ, q = .next ρ ∧ JS2 xs k u (j + 1) ρ) := by
  obtain ⟨pk, p0, p1, ep⟩ := s_at h (k + 1 + 6 * (j : Int)) (by omega) (by omega)
  obtain ⟨x, x0, x1, ex⟩ := s_at h (k + 2 + 6 * (j : Int)) (by omega) (by omega)
  obtain ⟨y, y0, y1, ey⟩ := s_at h (k + 3 + 6 * (j : Int)) (by omega) (by omega)
  have m6 : ∀ z : Int, dMul (.int 6) (.int z) = some (.v (.int (6 * z))) := fun z => x_mulL (by decide)
  have d1 := divS pk (b := 12) (by omega) (by omega)
  obtain ⟨n, hn, gn⟩ := at6 (pk % 6) (by omega) (by omega)
  obtain ⟨sg, hs, gs⟩ := at3 (pk / 12 % 3) (by omega) (by omega)
  have xn := x_int1' (n : Int) (by omega)
  have hl' : ts.length < 16777216 := by omega
  have b1 : -20 ≤ x % 61 - 20 ∧ x % 61 - 20 ≤ 40 := by omega
  have b2 : x % 61 - 20 ≤ x % 61 - 20 + y % 13 ∧ x % 61 - 20 + y % 13 ≤ x % 61 - 20 + 12 := by omega
  have turn := fun lo hi l0 h0 => st1_turn h k u k0 k1 ts j hj pk lo hi p0 p1 l0 h0
  simp [-x_mul, -x_div, b__law_strike_f2, m6, ep, ex, ey, gn, xn]
  generalize x % 61 - 20 = lo at *
  generalize lo + y % 13 = hi at *
  have turn := turn lo hi b1 b2
  refine rg_v (J := JS1 xs k u ts j pk lo hi) ⟨[(lo, hi)], v9, v10, v11, fun r hr => ?_, rfl, rfl⟩ ?_ ?_
  · cases List.mem_singleton.mp hr
    unfold GR
    simp
    omega
  · rintro i _ hi3 ⟨rs, v9, v10, v11, hr, hl3, rfl⟩
    obtain ⟨q, e, ρ, rfl, h2⟩ := turn i (by omega) rs hr hl3 v10 v11
    simp [e]
    exact h2
  · rintro _ ⟨rs, v9, v10, v11, hr, hl3, rfl⟩
    simp [-x_div, d1, gs, hl']
    refine ⟨ts ++ [⟨sg, rs⟩], _, _, _, _, _, _, _, _, fun t q => ?_, by simp; omega, by rw [List.map_append]; rfl⟩
    rcases List.mem_append.mp q with q | q
    · exact ht t q
    · cases List.mem_singleton.mp q
      exact ⟨hs, by show 0 < rs.length; omega, by show rs.length ≤ 4; omega, hr⟩
structure Ts (ts : List Tm) : Prop where
  ok : ∀ t ∈ ts, GT t
  ne : 0 < ts.length
  len : ts.length ≤ 6
theorem s_strike {xs : List Int} (h : Pl xs) (k : Int) (k0 : 0 ≤ k) (k1 : k ≤ 1000) : ∃ (ts : List Tm) (u : Int), Ts ts ∧ Un u ∧ u ≤ 1000 ∧ m__law_strike [.lst (xs.map .int), .int k] = .ok (.v (.tup [.lst (ts.map tD), .int u])) := by
  have key : Ev (m__law_strike [.lst (xs.map .int), .int k]) (fun s => ∃ (ts : List Tm) (u : Int), (Ts ts ∧ Un u ∧ u ≤ 1000) ∧ s = .v (.tup [.lst (ts.map tD), .int u])) := by
    obtain ⟨x, x0, x1, ex⟩ := s_at h k (by omega) (by omega)
    obtain ⟨u, hu, gu⟩ := at7 (x % 7) (by omega) (by omega)
    have d1 := divS x (b := 7) (by omega) (by omega)
    have xn := x_int1' (1 + x / 7 % 6) (by omega)
    have bn : 1 ≤ (1 + x / 7 % 6).toNat ∧ (1 + x / 7 % 6).toNat ≤ 6 := by omega
    simp [-x_div, m__law_strike, b__law_strike, ex, gu, d1, xn]
    refine rg_v (J := JS2 xs k u) ⟨[], none, none, none, none, none, none, none, none, by simp, rfl, rfl⟩ ?_ ?_
    · rintro j _ hj ⟨ts, v4, v5, v6, v7, v8, v9, v10, v11, ht, hl, rfl⟩
      obtain ⟨q, e, ρ, rfl, h2⟩ := st2_turn h k u k0 k1 j (by omega) ts ht hl v5 v6 v7 v8 v9 v10 v11
      simp [e]
      exact h2
    · rintro _ ⟨ts, v4, v5, v6, v7, v8, v9, v10, v11, ht, hl, rfl⟩
      simp
      exact ⟨ts, ⟨⟨ht, by omega, by omega⟩, hu⟩, rfl⟩
  obtain ⟨s, e, ts, u, ⟨h1, h2⟩, rfl⟩ := key
  exact ⟨ts, u, h1, h2.1, h2.2, e⟩
end K16

namespace K16
open PL PySem Std
theorem x_maxS (xs : List Int) (h : 0 < xs.length) : dMax [.lst (xs.map .int)] = some (.v (.int (maxI xs))) := by
  cases xs with
  | nil => cases h
  | cons x xs => simp only [dMax, intsD_map]
theorem x_minS (xs : List Int) (h : 0 < xs.length) : dMin [.lst (xs.map .int)] = some (.v (.int (minI xs))) := by
  cases xs with
  | nil => cases h
  | cons x xs => simp only [dMin, intsD_map]
/-- the bounds of a term -/
def mx (t : Tm) : Int := maxI (t.rs.map (·.1))
def mn (t : Tm) : Int := minI (t.rs.map (·.2))
theorem mx_mem {t : Tm} (h : GT t) : mx t ∈ t.rs.map (·.1) := maxI_mem (by rw [List.length_map]; exact h.ne)
theorem mn_mem {t : Tm} (h : GT t) : mn t ∈ t.rs.map (·.2) := minI_mem (by rw [List.length_map]; exact h.ne)
theorem mx_le {t : Tm} {r : Int × Int} (h : r ∈ t.rs) : r.1 ≤ mx t := maxI_le (List.mem_map_of_mem h)
theorem mn_le {t : Tm} {r : Int × Int} (h : r ∈ t.rs) : mn t ≤ r.2 := minI_le (List.mem_map_of_mem h)
theorem mx_bd {t : Tm} (h : GT t) : -100 ≤ mx t ∧ mx t ≤ 100 := by
  obtain ⟨r, hr, e⟩ := List.mem_map.mp (mx_mem h)
  have := h.rd r hr
  unfold GR at this
  omega
theorem mn_bd {t : Tm} (h : GT t) : -100 ≤ mn t ∧ mn t ≤ 100 := by
  obtain ⟨r, hr, e⟩ := List.mem_map.mp (mn_mem h)
  have := h.rd r hr
  unfold GR at this
  omega
theorem s_meet {t : Tm} (h : GT t) : m__law_meet [.lst (t.rs.map pI)] = .ok (.v (.tup [.int (mx t), .int (mn t)])) := by
  have hl := h.len
  have a1 := x_maxS (t.rs.map (·.1)) (by rw [List.length_map]; exact h.ne)
  have a2 := x_minS (t.rs.map (·.2)) (by rw [List.length_map]; exact h.ne)
  rw [List.map_map] at a1 a2
  simp [m__law_meet, b__law_meet, x_eLc]
  refine lm_b t.rs (fun r => .int r.1) (h := pI) rfl (by omega) (fun r hr => ?_) ?_
  · simp [b__law_meet_c2, pI]
  have a1 : dMax [.lst (t.rs.map fun r => .int r.1)] = _ := a1
  simp [a1, x_eLc]
  refine lm_b t.rs (fun r => .int r.2) (h := pI) rfl (by omega) (fun r hr => ?_) ?_
  · simp [b__law_meet_c1, pI]
  have a2 : dMin [.lst (t.rs.map fun r => .int r.2)] = _ := a2
  simp [a2, mx, mn]
/-- what a term adds -/
def sl (t : Tm) : Int := if t.sg = 1 then mx t else -mn t
def sh (t : Tm) : Int := if t.sg = 1 then mn t else -mx t
theorem take_snoc {α : Type} {xs : List α} {i : Nat} {x : α} (h : xs[i]? = some x) : xs.take (i + 1) = xs.take i ++ [x] := by rw [List.take_add_one, h]; rfl
theorem s_ends {ts : List Tm} (h : ∀ t ∈ ts, GT t) : m__law_ends [.lst (ts.map tD)] = .ok (.v (.tup [.int (ts.map sl).sum, .int (ts.map sh).sum])) := by
  simp [m__law_ends, b__law_ends]
  refine lp_eq ts (h := tD) (J := fun i ρ => ∃ v3 v4, ρ = [some (.v (.lst (ts.map tD))), some (.v (.int ((ts.take i).map sl).sum)), some (.v (.int ((ts.take i).map sh).sum)), v3, v4]) rfl ⟨none, none, by simp⟩ ?_ ?_
  · rintro i t _ ht ⟨v3, v4, rfl⟩
    have g := h t (List.mem_of_getElem? ht)
    have e := s_meet g
    have e1 : dIx (tD t) (.int 1) = some (.v (.lst (t.rs.map pI))) := by simp [tD]
    have e0 : dIx (tD t) (.int 0) = some (.v (.int t.sg)) := by simp [tD]
    rw [take_snoc ht]
    by_cases c : t.sg = 1
    · simp [b__law_ends_f1, e0, e1, e, c, sl, sh]
    · simp [b__law_ends_f1, e0, e1, e, c, sl, sh]
      constructor <;> omega
  · rintro _ ⟨v3, v4, rfl⟩
    simp
theorem sum_bd {f : Tm → Int} {ts : List Tm} (h : ∀ t ∈ ts, -100 ≤ f t ∧ f t ≤ 100) : -(100 * (ts.length : Int)) ≤ (ts.map f).sum ∧ (ts.map f).sum ≤ 100 * (ts.length : Int) := by
  induction ts with
  | nil => simp
  | cons t ts ih =>
    have h1 := h t (List.mem_cons_self ..)
    have h2 := ih fun x hx => h x (List.mem_cons_of_mem _ hx)
    simp only [List.map_cons, List.sum_cons, List.length_cons]
    omega
theorem sl_bd {t : Tm} (h : GT t) : -100 ≤ sl t ∧ sl t ≤ 100 := by
  have := mx_bd h
  have := mn_bd h
  unfold sl; split <;> omega
theorem sh_bd {t : Tm} (h : GT t) : -100 ≤ sh t ∧ sh t ≤ 100 := by
  have := mx_bd h
  have := mn_bd h
  unfold sh; split <;> omega
theorem s_total {xs : List Int} (hx : Pl xs) (k : Int) (k0 : 0 ≤ k) (k1 : k ≤ 1000) {ts : List Tm} (h : Ts ts) : ∃ a b : Int, (-3000 ≤ a ∧ a ≤ b ∧ b ≤ 3000) ∧ m__law_total [.lst (xs.map .int), .int k, .lst (ts.map tD)] = .ok (.v (.tup [.int a, .int b])) := by
  obtain ⟨x, x0, x1, ex⟩ := s_at hx k (by omega) (by omega)
  obtain ⟨y, y0, y1, ey⟩ := s_at hx (k + 1) (by omega) (by omega)
  have e := s_ends h.ok
  have b1 := sum_bd (f := sl) fun t ht => sl_bd (h.ok t ht)
  have b2 := sum_bd (f := sh) fun t ht => sh_bd (h.ok t ht)
  have hl := h.len
  generalize (ts.map sl).sum = p at *
  generalize (ts.map sh).sum = q at *
  have key : Ev (m__law_total [.lst (xs.map .int), .int k, .lst (ts.map tD)]) (fun s => ∃ a b : Int, (-3000 ≤ a ∧ a ≤ b ∧ b ≤ 3000) ∧ s = .v (.tup [.int a, .int b])) := by
    have c0 : 0 < (if q - p < 0 then -(q - p) else q - p) + 13 := by split <;> omega
    have c1 : (if q - p < 0 then -(q - p) else q - p) + 13 ≤ 1300 := by split <;> omega
    have c2 := Int.emod_nonneg x (show (if q - p < 0 then -(q - p) else q - p) + 13 ≠ 0 by omega)
    have c3 := Int.emod_lt_of_pos x c0
    have c4 : -600 ≤ (if q < p then q else p) ∧ (if q < p then q else p) ≤ 600 := by split <;> omega
    simp [m__law_total, b__law_total, e]
    generalize (if q - p < 0 then -(q - p) else q - p) = sp at *
    generalize (if q < p then q else p) = m at *
    simp [ex, ey, c0]
    omega
  obtain ⟨s, e, a, b, h1, rfl⟩ := key
  exact ⟨a, b, h1, e⟩
end K16

namespace K16
open PL PySem Std
/-! a number over the unit, by the law -/
def JE (v u : Int) (g : Nat) (i : Nat) (ρ : Rho) : Prop := ∃ (x y : Int) (v4 v5 : Option S), Int.gcd x y = g ∧ 0 ≤ x ∧ 0 ≤ y ∧ (y = 0 ∨ (∃ t, i = 2 * t ∧ t ≤ 15 ∧ y < 2 ^ (16 - t)) ∨ (∃ t, i = 2 * t + 1 ∧ t ≤ 15 ∧ y < x ∧ x < 2 ^ (16 - t))) ∧ ρ = [some (.v (.int v)), some (.v (.int u)), some (.v (.int x)), some (.v (.int y)), v4, v5]
theorem je_step {g i : Nat} {x y : Int} (hg : Int.gcd x y = g) (x0 : 0 ≤ x) (y0 : 0 < y) (h : (∃ t, i = 2 * t ∧ t ≤ 15 ∧ y < 2 ^ (16 - t)) ∨ (∃ t, i = 2 * t + 1 ∧ t ≤ 15 ∧ y < x ∧ x < 2 ^ (16 - t))) :
    Int.gcd y (x % y) = g ∧ 0 ≤ y ∧ 0 ≤ x % y ∧ (x % y = 0 ∨ (∃ t, i + 1 = 2 * t ∧ t ≤ 15 ∧ x % y < 2 ^ (16 - t)) ∨ (∃ t, i + 1 = 2 * t + 1 ∧ t ≤ 15 ∧ x % y < y ∧ y < 2 ^ (16 - t))) := by
  have m0 := Int.emod_nonneg x (show y ≠ 0 by omega)
  have m1 := Int.emod_lt_of_pos x y0
  refine ⟨by rw [gstep]; exact hg, by omega, m0, ?_⟩
  rcases h with ⟨t, h1, h2, h3⟩ | ⟨t, h1, h2, h3, h4⟩
  · exact .inr (.inr ⟨t, by omega, h2, m1, h3⟩)
  · have e1 : 16 - t = (16 - (t + 1)) + 1 := by omega
    rw [e1, Int.pow_succ] at h4
    have q1 : 1 ≤ x / y := by
      have := Int.ediv_le_ediv y0 (show y ≤ x by omega)
      rw [Int.ediv_self (by omega)] at this
      exact this
    have q2 := Int.emod_add_mul_ediv x y
    have q3 := Int.mul_le_mul_of_nonneg_left q1 (show (0 : Int) ≤ y by omega)
    by_cases q : t = 15
    · subst q
      left
      simp at h4
      omega
    · refine .inr (.inl ⟨t + 1, by omega, by omega, ?_⟩)
      generalize (2 : Int) ^ (16 - (t + 1)) = B at *
      omega
theorem je_end {x y : Int} (h : y = 0 ∨ (∃ t : Nat, 40 = 2 * t ∧ t ≤ 15 ∧ y < 2 ^ (16 - t)) ∨ (∃ t : Nat, 40 = 2 * t + 1 ∧ t ≤ 15 ∧ y < x ∧ x < 2 ^ (16 - t))) : y = 0 := by
  cases h with
  | inl h => exact h
  | inr h =>
    cases h with
    | inl h => obtain ⟨t, h1, h2, _⟩ := h; omega
    | inr h => obtain ⟨t, h1, h2, _⟩ := h; omega
theorem s_lratioA {u : Int} (hu : Un u) (v : Int) : m__law_ratio [.int v, .int u] = .ok (.v (qR u v)) := by
  have u0 := hu.lo
  have u1 := hu.hi
  have x4 : int1 [.int 40] = some 40 := x_int1' _ (by decide)
  have ga : Int.gcd (if v < 0 then -v else v) u = Int.gcd v u := by split <;> simp
  have a0 : 0 ≤ (if v < 0 then -v else v) := by split <;> omega
  have es : sgn v u = (Int.gcd v u : Int) := by unfold sgn; rw [if_neg (by omega)]
  obtain ⟨e1, e2⟩ := div_sgn (n := v) (d := u) (k := 30) (by omega) (by omega) (by omega) (by omega)
  rw [es] at e1 e2
  generalize hg : Int.gcd v u = g at *
  simp [-x_div, m__law_ratio, b__law_ratio, x4]
  refine rg_eq (J := JE v u g) ⟨_, u, none, none, ga, a0, by omega, .inr (.inl ⟨0, rfl, by omega, by simp; omega⟩), rfl⟩ ?_ ?_
  · rintro i _ hi ⟨x, y, v4, v5, hg, x0, y0, h, rfl⟩
    by_cases c : 0 < y
    · have hy : ¬ y = 0 := by omega
      have st := je_step hg x0 c (h.resolve_left hy)
      simp [b__law_ratio_f1, c, hy]
      exact ⟨y, x % y, _, _, st.1, st.2.1, st.2.2.1, st.2.2.2, rfl⟩
    · have hy : y = 0 := by omega
      simp [b__law_ratio_f1, c]
      exact ⟨x, y, _, _, hg, x0, y0, .inl hy, rfl⟩
  · rintro _ ⟨x, y, v4, v5, hg, x0, y0, h, rfl⟩
    have hy : y = 0 := je_end h
    clear h
    subst hy
    have hx : x = (g : Int) := by
      rw [Int.gcd_zero] at hg
      omega
    subst hx
    simp [-x_div, e1, e2, qR, qD, R]
theorem s_lratio {u : Int} (hu : Un u) (v : Int) (hv : v.natAbs < 1000000) : m__law_ratio [.int v, .int u] = .ok (.v (qR u v)) := s_lratioA hu v
def rd (u : Int) (r : Int × Int) : D := .tup [qR u r.1, qR u r.2]
theorem s_asr {u : Int} (hu : Un u) (r : Int × Int) (h1 : r.1.natAbs < 1000000) (h2 : r.2.natAbs < 1000000) : m__law_as_reading [pI r, .int u] = .ok (.v (rd u r)) := by
  have e1 := s_lratio hu r.1 h1
  have e2 := s_lratio hu r.2 h2
  simp [m__law_as_reading, b__law_as_reading, pI, e1, e2, rd]
def tR (u : Int) (t : Tm) : D := .tup [.int t.sg, .tup (t.rs.map (rd u))]
def sD (u : Int) (ts : List Tm) (w : Int × Int) : D := .tup [.tup (ts.map (tR u)), rd u w]
theorem gr_bd {r : Int × Int} (h : GR r) : r.1.natAbs < 1000 ∧ r.2.natAbs < 1000 := by
  unfold GR at h
  omega
theorem s_subject {u : Int} (hu : Un u) {ts : List Tm} (h : Ts ts) (w : Int × Int) (w1 : w.1.natAbs < 1000000) (w2 : w.2.natAbs < 1000000) : m__law_subject [.lst (ts.map tD), pI w, .int u] = .ok (.v (sD u ts w)) := by
  have hl := h.len
  have ew := s_asr hu w w1 w2
  have x_t : ∀ xs : List D, dTup1 [.lst xs] = some (.v (.tup xs)) := fun _ => rfl
  simp [m__law_subject, b__law_subject]
  refine lp_eq ts (h := tD) (J := fun i ρ => ∃ v4 v5, (v5 = none ∨ ∃ d, v5 = some (.v d)) ∧ ρ = [some (.v (.lst (ts.map tD))), some (.v (pI w)), some (.v (.int u)), some (.o (.lst ((ts.take i).map (tR u)))), v4, v5]) rfl ⟨none, none, .inl rfl, by simp⟩ ?_ ?_
  · rintro i t _ ht ⟨v4, v5, h5, rfl⟩
    have hi := (List.getElem?_eq_some_iff.mp ht).1
    have g := h.ok t (List.mem_of_getElem? ht)
    have gl := g.len
    have e1 : dIx (tD t) (.int 1) = some (.v (.lst (t.rs.map pI))) := by simp [tD]
    have e0 : dIx (tD t) (.int 0) = some (.v (.int t.sg)) := by simp [tD]
    have k : min i ts.length < 16777216 := by omega
    rw [take_snoc ht]
    rcases h5 with rfl | ⟨d5, rfl⟩
    · simp [b__law_subject_f2, e0, e1, x_eLc]
      refine lm_a t.rs (rd u) (h := pI) rfl (by omega) (fun r hr => ?_) ?_
      · have b := gr_bd (g.rd r hr)
        have e := s_asr hu r (by omega) (by omega)
        simp [b__law_subject_c1, e]
      · simp [x_t, k, tR]
    · simp [b__law_subject_f2, e0, e1, x_eLc]
      refine lm_a t.rs (rd u) (h := pI) rfl (by omega) (fun r hr => ?_) ?_
      · have b := gr_bd (g.rd r hr)
        have e := s_asr hu r (by omega) (by omega)
        simp [b__law_subject_c1, e]
      · simp [x_t, k, tR]
  · rintro _ ⟨v4, v5, h5, rfl⟩
    simp [x_t, ew, sD]
end K16

namespace K16
open PL PySem Std
/-! places in a list -/
def ixI (v : Int) : List Int → Option Nat
  | [] => none
  | x :: xs => if x = v then some 0 else (ixI v xs).map (· + 1)
theorem ixI_ex {v : Int} : ∀ {xs : List Int}, v ∈ xs → ∃ j, ixI v xs = some j
  | x :: xs, h => by
    unfold ixI
    by_cases c : x = v
    · exact ⟨0, by rw [if_pos c]⟩
    · rw [if_neg c]
      rcases List.mem_cons.mp h with rfl | h
      · exact (c rfl).elim
      · obtain ⟨j, e⟩ := ixI_ex h
        exact ⟨j + 1, by rw [e]; rfl⟩
theorem ixOf_int (v : Int) : ∀ xs : List Int, ixOf (.int v) (xs.map .int) = ixI v xs
  | [] => rfl
  | x :: xs => by
    rw [List.map_cons, ixOf, ixI, ixOf_int v xs, eq_ii]
    by_cases c : x = v <;> simp [c]
theorem shp_ints (xs : List Int) : shp (.lst (xs.map .int)) = true := by
  rw [shp_is]
  have : dptL (xs.map D.int) ≤ 0 := dptL_le fun d hd => by
    obtain ⟨x, _, rfl⟩ := List.mem_map.mp hd
    simp
  simp [clay_ints]
  omega
theorem s_ixI {v : Int} {xs : List Int} (h : v ∈ xs) : mIndex (xs.map .int) [.int v] = some (.int (((ixI v xs).getD 0 : Nat) : Int), xs.map .int) := by
  obtain ⟨j, e⟩ := ixI_ex h
  simp only [mIndex]
  rw [if_pos ⟨rfl, shp_ints xs⟩, ixOf_int, e]
  rfl
/-! the readings apart, by the law -/
def jH (t : Tm) : Nat := (ixI (mn t) (t.rs.map (·.2))).getD 0
def jL (t : Tm) : Nat := (ixI (mx t) (t.rs.map (·.1))).getD 0
def pap (i : Nat) (t : Tm) : D := .tup [.str "apart", .int (i : Int), .int (jH t : Int), .int (jL t : Int)]
def apF (i : Nat) : List Tm → Option D
  | [] => none
  | t :: ts => if mn t < mx t then some (pap i t) else apF (i + 1) ts
theorem apF_skip : ∀ (ts : List Tm) (k i : Nat), (∀ t ∈ ts.take i, ¬ mn t < mx t) → apF k ts = apF (k + i) (ts.drop i)
  | ts, k, 0, _ => by simp
  | [], k, i + 1, _ => by simp [apF]
  | t :: ts, k, i + 1, h => by
    have h1 := h t (by simp)
    have h2 := apF_skip ts (k + 1) i fun x hx => h x (by simp [hx])
    rw [apF, if_neg h1, h2, List.drop_succ_cons]
    congr 1
    omega
theorem apF_at {ts : List Tm} {i : Nat} {t : Tm} (ht : ts[i]? = some t) (h : ∀ x ∈ ts.take i, ¬ mn x < mx x) (c : mn t < mx t) : apF 0 ts = some (pap i t) := by
  rw [apF_skip ts 0 i h]
  obtain ⟨hi, e⟩ := List.getElem?_eq_some_iff.mp ht
  rw [List.drop_eq_getElem_cons hi, e, apF, if_pos c, Nat.zero_add]
theorem apF_no {ts : List Tm} (h : ∀ x ∈ ts, ¬ mn x < mx x) : apF 0 ts = none := by
  rw [apF_skip ts 0 ts.length (by rw [List.take_length]; exact h), List.drop_length]
  rfl
theorem no_snoc {ts : List Tm} {i : Nat} {t : Tm} (ht : ts[i]? = some t) (h : ∀ x ∈ ts.take i, ¬ mn x < mx x) (c : ¬ mn t < mx t) : ∀ x ∈ ts.take (i + 1), ¬ mn x < mx x := fun x hx => by
  rw [take_snoc ht] at hx
  rcases List.mem_append.mp hx with q | q
  · exact h x q
  · cases List.mem_singleton.mp q; exact c
theorem s_lapart {ts : List Tm} (h : ∀ t ∈ ts, GT t) (hl : ts.length ≤ 6) : m__law_apart [.lst (ts.map tD)] = .ok (.v ((apF 0 ts).getD .non)) := by
  have x1 := x_int1' (ts.length : Int) (by omega)
  simp [m__law_apart, b__law_apart, x1]
  refine rg_eq (J := fun i ρ => (∀ x ∈ ts.take i, ¬ mn x < mx x) ∧ ∃ v1 v2, ρ = [some (.v (.lst (ts.map tD))), v1, v2, none, none, none]) ⟨by simp, none, none, rfl⟩ ?_ ?_
  · rintro i _ hi ⟨hw, v1, v2, rfl⟩
    have ht : ts[i]? = some ts[i] := List.getElem?_eq_getElem hi
    have g := h ts[i] (List.getElem_mem hi)
    have gx : L2.atI (ts.map tD) (i : Int) = some (tD ts[i]) := atI_ofNat _ _ _ (by simp [hi])
    have aa := apF_at ht hw
    have nn := no_snoc ht hw
    generalize ts[i] = t at *
    have gl := g.len
    have e := s_meet g
    have e1 : dIx (tD t) (.int 1) = some (.v (.lst (t.rs.map pI))) := by simp [tD]
    have i1 := s_ixI (mn_mem g)
    have i2 := s_ixI (mx_mem g)
    rw [List.map_map] at i1 i2
    have i1 : mIndex (t.rs.map fun r => .int r.2) [.int (mn t)] = some (.int (jH t : Int), t.rs.map fun r => .int r.2) := i1
    have i2 : mIndex (t.rs.map fun r => .int r.1) [.int (mx t)] = some (.int (jL t : Int), t.rs.map fun r => .int r.1) := i2
    by_cases c : mn t < mx t
    · rw [aa c]
      simp [b__law_apart_f3, gx, e1, e, c, x_eLc]
      refine lm_a t.rs (fun r => .int r.2) (h := pI) rfl (by omega) (fun r hr => ?_) ?_
      · simp [b__law_apart_c1, pI]
      simp [gx, e1, x_eLc]
      refine lm_a t.rs (fun r => .int r.1) (h := pI) rfl (by omega) (fun r hr => ?_) ?_
      · simp [b__law_apart_c2, pI]
      simp [i1, i2, pap]
    · have n := nn c
      simp [b__law_apart_f3, gx, e1, e, c]
      simpa using n
  · rintro _ ⟨hw, v1, v2, rfl⟩
    rw [apF_no (by rw [List.take_length] at hw; exact hw)]
    simp
end K16

namespace K16
open PL PySem Std
/-! the program's readings -/
theorem c_rt {u : Int} (hu : Un u) (v : Int) (hv : v.natAbs < 1000000) : m_is_ratio [qR u v] = .ok (.v (.bl true)) := s_is_ratio (R_rt hu hv) false
theorem R_le {u : Int} (v : Int) : (R u v).1.natAbs ≤ v.natAbs ∧ (R u v).2.natAbs ≤ u.natAbs := ⟨Int.natAbs_ediv_le_natAbs _ _, Int.natAbs_ediv_le_natAbs _ _⟩
theorem s_small {u : Int} (hu : Un u) (us : u ≤ 1000) (v : Int) (hv : v.natAbs < 1000000) : m_is_small_ratio [qR u v] = .ok (.v (.bl true)) := by
  have i := c_rt hu v hv
  have b := R_le (u := u) v
  have u0 := hu.lo
  have u1 := hu.hi
  have p := (R_rt hu hv).pos
  have e1 : -1000000 ≤ (R u v).1 := by omega
  have e2 : (R u v).1 ≤ 1000000 := by omega
  have e3 : (R u v).2 ≤ 1000 := by omega
  have g0 : dIx (qR u v) (.int 0) = some (.v (.int (R u v).1)) := q0 false _
  have g1 : dIx (qR u v) (.int 1) = some (.v (.int (R u v).2)) := q1 false _
  simp [m_is_small_ratio, b_is_small_ratio, i, g0, g1, c_GREATEST_TOP, c_GREATEST_BOTTOM, e1, e2, e3]
theorem s_reading {u : Int} (hu : Un u) (us : u ≤ 1000) (r : Int × Int) (h1 : r.1.natAbs < 1000000) (h2 : r.2.natAbs < 1000000) (h : r.1 ≤ r.2) : m_is_reading [rd u r] = .ok (.v (.bl true)) := by
  have t := t_tup (rd u r) 2 2 rfl
  have s1 := s_small hu us r.1 h1
  have s2 := s_small hu us r.2 h2
  have c := r_cmp hu h1 h2
  have g0 : dIx (rd u r) (.int 0) = some (.v (qR u r.1)) := by simp [rd]
  have g1 : dIx (rd u r) (.int 1) = some (.v (qR u r.2)) := by simp [rd]
  have hc : (if r.1 < r.2 then (-1 : Int) else if r.2 < r.1 then 1 else 0) ≤ 0 := by
    split
    · omega
    · rw [if_neg (by omega)]; omega
  generalize (if r.1 < r.2 then (-1 : Int) else if r.2 < r.1 then 1 else 0) = z at *
  simp [rd] at t
  have t : m_is_tuple_of [rd u r, .int 2, .int 2] = .ok (.v (.bl true)) := t
  generalize rd u r = RD at *
  simp [m_is_reading, b_is_reading, s1, s2, c, g0, g1, hc, t]
theorem all_true {α : Type} (xs : List α) : blsD (xs.map fun _ => D.bl true) = some (xs.map fun _ => true) := by
  induction xs with
  | nil => rfl
  | cons x xs ih => simp [blsD] at ih ⊢; exact ih
theorem s_are {u : Int} (hu : Un u) (us : u ≤ 1000) (rs : List (Int × Int)) (h0 : 0 < rs.length) (h4 : rs.length ≤ 4) (hr : ∀ r ∈ rs, GR r) : m_are_readings [.tup (rs.map (rd u))] = .ok (.v (.bl true)) := by
  have t := t_tup (.tup (rs.map (rd u))) 1 4 rfl
  have l0 : (1 : Int) ≤ rs.length := by omega
  have l4 : (rs.length : Int) ≤ 4 := by omega
  simp [l0, l4] at t
  simp [m_are_readings, b_are_readings, t, c_MOST_READINGS, x_eLc]
  refine lm_b rs (fun _ => .bl true) (h := rd u) rfl (by omega) (fun r hr' => ?_) ?_
  · have b := gr_bd (hr r hr')
    have g := hr r hr'
    unfold GR at g
    have e := s_reading hu us r (by omega) (by omega) g.2.1
    simp [b_are_readings_c1, e]
  · simp [all_true]
theorem s_term {u : Int} (hu : Un u) (us : u ≤ 1000) {t : Tm} (g : GT t) : m_is_term [tR u t] = .ok (.v (.bl true)) := by
  have tt := t_tup (tR u t) 2 2 rfl
  have w := t_w (.int t.sg) rfl
  have a := s_are hu us t.rs g.ne g.len g.rd
  have g0 : dIx (tR u t) (.int 0) = some (.v (.int t.sg)) := by simp [tR]
  have g1 : dIx (tR u t) (.int 1) = some (.v (.tup (t.rs.map (rd u)))) := by simp [tR]
  have i1 := in_intsT t.sg [1, -1]
  simp [tR] at tt
  have hs := g.sg
  simp [hs] at i1
  have tt : m_is_tuple_of [tR u t, .int 2, .int 2] = .ok (.v (.bl true)) := tt
  generalize tR u t = RD at *
  simp [m_is_term, b_is_term, g0, g1, w, a, i1, tt]
theorem s_checkS {u : Int} (hu : Un u) (us : u ≤ 1000) {ts : List Tm} (h : Ts ts) (w : Int × Int) (w1 : w.1.natAbs < 1000000) (w2 : w.2.natAbs < 1000000) (hw : w.1 ≤ w.2) : m_check_strike [sD u ts w] = .ok (.v .non) := by
  have t := t_tup (sD u ts w) 2 2 rfl
  have t2 := t_tup (.tup (ts.map (tR u))) 1 6 rfl
  have hl := h.len
  have l0 : (1 : Int) ≤ ts.length := by have := h.ne; omega
  have l6 : (ts.length : Int) ≤ 6 := by omega
  simp [l0, l6] at t2
  have r := s_reading hu us w w1 w2 hw
  have g0 : dIx (sD u ts w) (.int 0) = some (.v (.tup (ts.map (tR u)))) := by simp [sD]
  have g1 : dIx (sD u ts w) (.int 1) = some (.v (rd u w)) := by simp [sD]
  simp [sD] at t
  simp only [m_check_strike, b_check_strike]
  have t : m_is_tuple_of [sD u ts w, .int 2, .int 2] = .ok (.v (.bl true)) := t
  generalize sD u ts w = S at *
  simp [t, t2, g0, g1, c_MOST_TERMS, x_eLc]
  refine lm_b ts (fun _ => .bl true) (h := tR u) rfl (by omega) (fun x hx => ?_) ?_
  · have e := s_term hu us (h.ok x hx)
    simp [b_check_strike_c1, e]
  · simp [all_true, g1, r]
theorem s_glow {u : Int} (hu : Un u) {t : Tm} (g : GT t) : m_greatest_low [.tup (t.rs.map (rd u))] = .ok (.v (qR u (mx t))) := by
  have hne := g.ne
  have g0 : L2.atI (t.rs.map (rd u)) 0 = some (rd u t.rs[0]) := by
    show L2.atI _ ((0 : Nat) : Int) = _
    exact atI_ofNat _ _ _ (by rw [List.getElem?_map, List.getElem?_eq_getElem hne]; rfl)
  have e0 : dIx (rd u t.rs[0]) (.int 0) = some (.v (qR u t.rs[0].1)) := by simp [rd]
  have m0 : t.rs[0].1 ∈ t.rs.map (·.1) := List.mem_map_of_mem (List.getElem_mem g.ne)
  generalize t.rs[0] = r0 at *
  simp [m_greatest_low, b_greatest_low, g0, e0]
  refine lp_eq t.rs (h := rd u) (J := fun i ρ => ∃ (f : Int) (v2 v3 : Option S), f ∈ t.rs.map (·.1) ∧ (∀ r ∈ t.rs.take i, r.1 ≤ f) ∧ ρ = [some (.v (.tup (t.rs.map (rd u)))), some (.v (qR u f)), v2, v3]) rfl ⟨r0.1, none, none, m0, by simp, rfl⟩ ?_ ?_
  · rintro i r _ hr ⟨f, v2, v3, hf, hw, rfl⟩
    obtain ⟨y, hy, ey⟩ := List.mem_map.mp hf
    have b1 := gr_bd (g.rd y hy)
    have hm := List.mem_of_getElem? hr
    have b2 := gr_bd (g.rd r hm)
    have e := r_larger hu (a := f) (b := r.1) (by omega) (by omega)
    rw [take_snoc hr]
    simp [b_greatest_low_f1, rd, e]
    refine ⟨_, ?_, ?_, rfl⟩
    · by_cases c : f < r.1
      · rw [if_pos c]; exact ⟨r.2, hm⟩
      · rw [if_neg c]; exact ⟨y.2, by rw [← ey]; exact hy⟩
    · intro a b hab
      by_cases c : f < r.1
      · rw [if_pos c]
        rcases hab with hab | ⟨rfl, rfl⟩
        · have := hw (a, b) hab
          simp only at this
          omega
        · exact Int.le_refl _
      · rw [if_neg c]
        rcases hab with hab | ⟨rfl, rfl⟩
        · exact hw (a, b) hab
        · omega
  · rintro _ ⟨f, v2, v3, hf, hw, rfl⟩
    rw [List.take_length] at hw
    have : f = mx t := by
      obtain ⟨y, hy, ey⟩ := List.mem_map.mp hf
      obtain ⟨z, hz, ez⟩ := List.mem_map.mp (mx_mem g)
      have h1 := mx_le hy
      have h2 := hw z hz
      omega
    subst this
    simp
theorem s_lhigh {u : Int} (hu : Un u) {t : Tm} (g : GT t) : m_least_high [.tup (t.rs.map (rd u))] = .ok (.v (qR u (mn t))) := by
  have hne := g.ne
  have g0 : L2.atI (t.rs.map (rd u)) 0 = some (rd u t.rs[0]) := by
    show L2.atI _ ((0 : Nat) : Int) = _
    exact atI_ofNat _ _ _ (by rw [List.getElem?_map, List.getElem?_eq_getElem hne]; rfl)
  have e0 : dIx (rd u t.rs[0]) (.int 1) = some (.v (qR u t.rs[0].2)) := by simp [rd]
  have m0 : t.rs[0].2 ∈ t.rs.map (·.2) := List.mem_map_of_mem (List.getElem_mem g.ne)
  generalize t.rs[0] = r0 at *
  simp [m_least_high, b_least_high, g0, e0]
  refine lp_eq t.rs (h := rd u) (J := fun i ρ => ∃ (f : Int) (v2 v3 : Option S), f ∈ t.rs.map (·.2) ∧ (∀ r ∈ t.rs.take i, f ≤ r.2) ∧ ρ = [some (.v (.tup (t.rs.map (rd u)))), some (.v (qR u f)), v2, v3]) rfl ⟨r0.2, none, none, m0, by simp, rfl⟩ ?_ ?_
  · rintro i r _ hr ⟨f, v2, v3, hf, hw, rfl⟩
    obtain ⟨y, hy, ey⟩ := List.mem_map.mp hf
    have b1 := gr_bd (g.rd y hy)
    have hm := List.mem_of_getElem? hr
    have b2 := gr_bd (g.rd r hm)
    have e := r_lesser hu (a := f) (b := r.2) (by omega) (by omega)
    rw [take_snoc hr]
    simp [b_least_high_f1, rd, e]
    refine ⟨_, ?_, ?_, rfl⟩
    · by_cases c : r.2 < f
      · rw [if_pos c]; exact ⟨r.1, hm⟩
      · rw [if_neg c]; exact ⟨y.1, by rw [← ey]; exact hy⟩
    · intro a b hab
      by_cases c : r.2 < f
      · rw [if_pos c]
        rcases hab with hab | ⟨rfl, rfl⟩
        · have := hw (a, b) hab
          simp only at this
          omega
        · exact Int.le_refl _
      · rw [if_neg c]
        rcases hab with hab | ⟨rfl, rfl⟩
        · exact hw (a, b) hab
        · omega
  · rintro _ ⟨f, v2, v3, hf, hw, rfl⟩
    rw [List.take_length] at hw
    have : f = mn t := by
      obtain ⟨y, hy, ey⟩ := List.mem_map.mp hf
      obtain ⟨z, hz, ez⟩ := List.mem_map.mp (mn_mem g)
      have h1 := mn_le hy
      have h2 := hw z hz
      omega
    subst this
    simp
theorem s_apart {u : Int} (hu : Un u) {t : Tm} (g : GT t) : m_are_apart [.tup (t.rs.map (rd u))] = .ok (.v (.bl (decide (mn t < mx t)))) := by
  have a := s_glow hu g
  have b := s_lhigh hu g
  have b1 := mx_bd g
  have b2 := mn_bd g
  have c := r_cmp hu (a := mx t) (b := mn t) (by omega) (by omega)
  by_cases h1 : mx t < mn t
  · have h2 : ¬ mn t < mx t := by omega
    simp [m_are_apart, b_are_apart, a, b, c, h1, h2]
  · by_cases h2 : mn t < mx t <;> simp [m_are_apart, b_are_apart, a, b, c, h1, h2]
end K16

namespace K16
open PL PySem Std
def anyA (ts : List Tm) : Bool := ts.any fun t => decide (mn t < mx t)
theorem bls_any (f : Tm → Bool) : ∀ ts : List Tm, blsD (ts.map fun t => .bl (f t)) = some (ts.map f)
  | [] => rfl
  | t :: ts => by
    have := bls_any f ts
    simp [blsD] at this ⊢
    exact this
theorem s_any {u : Int} (hu : Un u) {ts : List Tm} (h : Ts ts) : m_any_apart [.tup (ts.map (tR u))] = .ok (.v (.bl (anyA ts))) := by
  have hl := h.len
  simp [m_any_apart, b_any_apart, x_eLc]
  refine lm_b ts (fun t => .bl (decide (mn t < mx t))) (h := tR u) rfl (by omega) (fun t ht => ?_) ?_
  · have e := s_apart hu (h.ok t ht)
    simp [b_any_apart_c1, tR, e]
  · have := bls_any (fun t => decide (mn t < mx t)) ts
    simp [this, anyA, List.any_map]
    try rfl
def bD (u : Int) (t : Tm) : D := .tup [qR u (sl t), qR u (sh t)]
theorem s_bounds {u : Int} (hu : Un u) {ts : List Tm} (h : Ts ts) : m_signed_bounds [.tup (ts.map (tR u))] = .ok (.v (.tup (ts.map (bD u)))) := by
  have hl := h.len
  have x_t : ∀ xs : List D, dTup1 [.lst xs] = some (.v (.tup xs)) := fun _ => rfl
  simp [m_signed_bounds, b_signed_bounds]
  refine lp_eq ts (h := tR u) (J := fun i ρ => ∃ v2 v3 v4 v5, ρ = [some (.v (.tup (ts.map (tR u)))), some (.o (.lst ((ts.take i).map (bD u)))), v2, v3, v4, v5]) rfl ⟨none, none, none, none, by simp⟩ ?_ ?_
  · rintro i t _ ht ⟨v2, v3, v4, v5, rfl⟩
    have hi := (List.getElem?_eq_some_iff.mp ht).1
    have g := h.ok t (List.mem_of_getElem? ht)
    have a := s_glow hu g
    have b := s_lhigh hu g
    have b1 := mx_bd g
    have b2 := mn_bd g
    have n1 := r_negZ hu (a := mx t) (by omega)
    have n2 := r_negZ hu (a := mn t) (by omega)
    have k : min i ts.length < 16777216 := by omega
    rw [take_snoc ht]
    by_cases c : t.sg = 1
    · simp [b_signed_bounds_f1, tR, a, b, c, k, bD, sl, sh]
    · simp [b_signed_bounds_f1, tR, a, b, c, k, c_ZERO, n1, n2, bD, sl, sh]
  · rintro _ ⟨v2, v3, v4, v5, rfl⟩
    simp [x_t]
theorem sum_take (vs : List Int) (hv : ∀ v ∈ vs, -1000 ≤ v ∧ v ≤ 1000) (i : Nat) : -(1000 * (i : Int)) ≤ (vs.take i).sum ∧ (vs.take i).sum ≤ 1000 * (i : Int) := by
  induction i with
  | zero => simp
  | succ i ih =>
    rcases Nat.lt_or_ge i vs.length with hi | hi
    · have e := take_snoc (List.getElem?_eq_getElem hi)
      have b := hv vs[i] (List.getElem_mem hi)
      rw [e, List.sum_append]
      simp
      omega
    · have e1 : vs.take (i + 1) = vs := List.take_of_length_le (by omega)
      have e2 : vs.take i = vs := List.take_of_length_le hi
      rw [e1]
      rw [e2] at ih
      omega
theorem s_tot {u : Int} (hu : Un u) (vs : List Int) (hv : ∀ v ∈ vs, -1000 ≤ v ∧ v ≤ 1000) (hl : vs.length ≤ 10) : m_total [.tup (vs.map (qR u))] = .ok (.v (qR u vs.sum)) := by
  have z : D.tup [.int 0, .int 1] = qR u 0 := by unfold qR; rw [R_zero hu]; rfl
  simp [m_total, b_total]
  refine lp_eq vs (h := qR u) (J := fun i ρ => ∃ v1, ρ = [some (.v (.tup (vs.map (qR u)))), v1, none]) rfl ⟨none, rfl⟩ ?_ ?_
  · rintro i v _ hi ⟨v1, rfl⟩
    have b := hv v (List.mem_of_getElem? hi)
    have e : m_check_ratio [qR u v] = _ := s_check (R_rt hu (v := v) (by omega)) false
    simp [b_total_f1, e]
  rintro _ ⟨v1, rfl⟩
  simp [z]
  refine lp_eq vs (h := qR u) (J := fun i ρ => ∃ v1, ρ = [some (.v (.tup (vs.map (qR u)))), v1, some (.v (qR u (vs.take i).sum))]) rfl ⟨v1, by simp⟩ ?_ ?_
  · rintro i v _ hi ⟨v1, rfl⟩
    have hlt := (List.getElem?_eq_some_iff.mp hi).1
    have b := hv v (List.mem_of_getElem? hi)
    have s := sum_take vs hv i
    have e := r_plus hu (a := (vs.take i).sum) (b := v) (by omega) (by omega)
    rw [take_snoc hi]
    simp [b_total_f2, e]
  · rintro _ ⟨v1, rfl⟩
    simp
theorem s_sums {u : Int} (hu : Un u) {ts : List Tm} (h : Ts ts) : m_sums [.tup (ts.map (bD u))] = .ok (.v (.tup [qR u (ts.map sl).sum, qR u (ts.map sh).sum])) := by
  have hl := h.len
  have x_t : ∀ xs : List D, dTup1 [.lst xs] = some (.v (.tup xs)) := fun _ => rfl
  have e1 := s_tot hu (ts.map sl) (fun v hv => by
    obtain ⟨t, ht, rfl⟩ := List.mem_map.mp hv
    have := sl_bd (h.ok t ht)
    omega) (by simp; omega)
  have e2 := s_tot hu (ts.map sh) (fun v hv => by
    obtain ⟨t, ht, rfl⟩ := List.mem_map.mp hv
    have := sh_bd (h.ok t ht)
    omega) (by simp; omega)
  rw [List.map_map] at e1 e2
  simp [m_sums, b_sums, x_eLc]
  refine lm_b ts (fun t => qR u (sl t)) (h := bD u) rfl (by omega) (fun t ht => ?_) ?_
  · simp [b_sums_c2, bD]
  have e1 : m_total [.tup (ts.map fun t => qR u (sl t))] = _ := e1
  have e2 : m_total [.tup (ts.map fun t => qR u (sh t))] = _ := e2
  simp [x_t, e1, x_eLc]
  refine lm_b ts (fun t => qR u (sh t)) (h := bD u) rfl (by omega) (fun t ht => ?_) ?_
  · simp [b_sums_c1, bD]
  simp [x_t, e2]
end K16

namespace K16
open PL PySem Std
theorem any_apF (ts : List Tm) : apF 0 ts = none ↔ anyA ts = false := by
  constructor
  · intro h
    unfold anyA
    rw [List.any_eq_false]
    intro t ht
    obtain ⟨i, hi, e⟩ := List.getElem_of_mem ht
    intro c
    have c : mn t < mx t := by simpa using c
    by_cases hw : ∀ x ∈ ts.take i, ¬ mn x < mx x
    · rw [apF_at (by rw [List.getElem?_eq_getElem hi, e]) hw c] at h
      cases h
    · have key : ∀ (l : List Tm) (k : Nat), (∃ x ∈ l, mn x < mx x) → apF k l ≠ none := by
        intro l
        induction l with
        | nil => rintro k ⟨x, hx, _⟩; cases hx
        | cons y l ih =>
          rintro k ⟨x, hx, cx⟩
          unfold apF
          split
          · simp
          · rcases List.mem_cons.mp hx with rfl | hx
            · contradiction
            · exact ih (k + 1) ⟨x, hx, cx⟩
      exact key ts 0 ⟨t, ht, c⟩ h
  · intro h
    unfold anyA at h
    rw [List.any_eq_false] at h
    exact apF_no fun x hx => by simpa using h x hx
end K16

namespace K16
open PL PySem Std
/-! the program's first term apart -/
theorem R_inj {u : Int} (hu : Un u) {a b : Int} (ha : a.natAbs < 1000000) (h : R u a = R u b) : a = b := by
  have r1 := R_rep hu a
  have r2 := R_rep hu b
  have p := (R_rt hu ha).pos
  unfold Rep at r1 r2
  rw [← h] at r2
  rw [r1] at r2
  exact Int.eq_of_mul_eq_mul_right (by omega) r2
theorem eq_qD (p q : QQ) : eqD (qD p) (qD q) = decide (p = q) := by
  obtain ⟨p1, p2⟩ := p
  obtain ⟨q1, q2⟩ := q
  simp only [qD, eq_tt, eq_cons, eq_nil, eq_ii]
  by_cases a : p1 = q1 <;> by_cases b : p2 = q2 <;> simp [a, b]
theorem ixOf_R {u : Int} (hu : Un u) (v : Int) : ∀ xs : List Int, (∀ x ∈ xs, x.natAbs < 1000000) → ixOf (qR u v) (xs.map (qR u)) = ixI v xs
  | [], _ => rfl
  | x :: xs, h => by
    have h1 := h x (List.mem_cons_self ..)
    have e : eqD (qR u x) (qR u v) = decide (x = v) := by
      unfold qR
      rw [eq_qD]
      by_cases c : x = v
      · subst c; simp
      · have : R u x ≠ R u v := fun z => c (R_inj hu h1 z)
        simp [c, this]
    rw [List.map_cons, ixOf, ixI, ixOf_R hu v xs fun y hy => h y (List.mem_cons_of_mem _ hy), e]
    by_cases c : x = v <;> simp [c]
theorem shp_qR (u v : Int) : shp (qR u v) = true := by
  rw [shp_is]
  simp [qR, qD]
theorem shp_Rs (u : Int) (xs : List Int) : shp (.lst (xs.map (qR u))) = true := by
  rw [shp_is]
  have c : clayL (xs.map (qR u)) = true := by
    rw [clayL_all, List.all_map, List.all_eq_true]
    intro x _
    simp [qR, qD]
  have : dptL (xs.map (qR u)) ≤ 1 := dptL_le fun d hd => by
    obtain ⟨x, _, rfl⟩ := List.mem_map.mp hd
    simp [qR, qD]
  simp [c]
  omega
theorem s_ixR {u : Int} (hu : Un u) {v : Int} {xs : List Int} (hx : ∀ x ∈ xs, x.natAbs < 1000000) (h : v ∈ xs) : mIndex (xs.map (qR u)) [qR u v] = some (.int (((ixI v xs).getD 0 : Nat) : Int), xs.map (qR u)) := by
  obtain ⟨j, e⟩ := ixI_ex h
  simp only [mIndex]
  rw [if_pos ⟨shp_qR u v, shp_Rs u xs⟩, ixOf_R hu v xs hx, e]
  rfl
theorem p_first {u : Int} (hu : Un u) {ts : List Tm} (h : Ts ts) : m_first_apart [.tup (ts.map (tR u))] = .ok (.v ((apF 0 ts).getD .non)) := by
  have hl := h.len
  simp [m_first_apart, b_first_apart]
  refine en_eq ts (h := tR u) (J := fun i ρ => (∀ x ∈ ts.take i, ¬ mn x < mx x) ∧ ∃ v1 v2 v3, (v2 = none ∨ ∃ d, v2 = some (.v d)) ∧ ρ = [some (.v (.tup (ts.map (tR u)))), v1, v2, v3, none, none, none, none]) rfl ⟨by simp, none, none, none, .inl rfl, rfl⟩ ?_ ?_
  · rintro i t _ ht ⟨hw, v1, v2, v3, h2, rfl⟩
    have g := h.ok t (List.mem_of_getElem? ht)
    have gl := g.len
    have aa := apF_at ht hw
    have nn := no_snoc ht hw
    have e := s_apart hu g
    have lo := s_glow hu g
    have hi := s_lhigh hu g
    have i1 := s_ixR hu (fun x hx => by
      obtain ⟨r, hr, rfl⟩ := List.mem_map.mp hx
      have := gr_bd (g.rd r hr)
      omega) (mn_mem g)
    have i2 := s_ixR hu (fun x hx => by
      obtain ⟨r, hr, rfl⟩ := List.mem_map.mp hx
      have := gr_bd (g.rd r hr)
      omega) (mx_mem g)
    rw [List.map_map] at i1 i2
    have i1 : mIndex (t.rs.map fun r => qR u r.2) [qR u (mn t)] = some (.int (jH t : Int), t.rs.map fun r => qR u r.2) := i1
    have i2 : mIndex (t.rs.map fun r => qR u r.1) [qR u (mx t)] = some (.int (jL t : Int), t.rs.map fun r => qR u r.1) := i2
    by_cases c : mn t < mx t
    · rw [aa c]
      simp [c] at e
      simp [b_first_apart_f3, tR, e, x_eLc]
      refine lm_a t.rs (fun r => qR u r.2) (h := rd u) rfl (by omega) (fun r hr => ?_) ?_
      · simp [b_first_apart_c1, rd]
      simp [x_eLc]
      refine lm_a t.rs (fun r => qR u r.1) (h := rd u) rfl (by omega) (fun r hr => ?_) ?_
      · simp [b_first_apart_c2, rd]
      simp [hi, i1, lo, i2, pap]
    · have n := nn c
      simp [c] at e
      simp [b_first_apart_f3, tR, e]
      simpa using n
  · rintro _ ⟨hw, v1, v2, v3, h2, rfl⟩
    rw [apF_no (by rw [List.take_length] at hw; exact hw)]
    simp
end K16

namespace K16
open PL PySem Std
/-! raising -/
def rv (L : Int) : List Tm → List Int
  | [] => []
  | t :: ts => (sl t + min (sh t - sl t) L) :: rv (L - min (sh t - sl t) L) ts
theorem rv_len (L : Int) : ∀ ts : List Tm, (rv L ts).length = ts.length
  | [] => rfl
  | t :: ts => by simp [rv, rv_len _ ts]
/-- a sum of what is lacking, perhaps the constant itself -/
def lD (u : Int) (b : Bool) (L : Int) : D := qX b (R u L)
section
variable {u : Int} (hu : Un u)
include hu
theorem cmp0 {a b : Int} (ha : a.natAbs < 1000000) (hb : b.natAbs < 1000000) : (cmp (R u a) (R u b) ≤ 0) = (a ≤ b) ∧ (cmp (R u a) (R u b) ≥ 0) = (b ≤ a) := by
  rw [R_cmp hu ha hb]
  constructor
  · apply propext
    split
    · omega
    · split <;> omega
  · apply propext
    split
    · omega
    · split <;> omega
theorem l_larger {a b : Int} (b1 b2 : Bool) (ha : a.natAbs < 1000000) (hb : b.natAbs < 1000000) : ∃ c, m_larger [lD u b1 a, lD u b2 b] = .ok (.v (lD u c (max a b))) := by
  have e := s_larger (R_rt hu ha) (R_rt hu hb) (by omega) b1 b2
  have k := (cmp0 hu ha hb).2
  have e : m_larger [lD u b1 a, lD u b2 b] = _ := e
  rw [e]
  by_cases c : b ≤ a
  · rw [if_pos (by rw [k]; exact c)]
    exact ⟨b1, by rw [show max a b = a by omega]; rfl⟩
  · rw [if_neg (by rw [k]; exact c)]
    exact ⟨b2, by rw [show max a b = b by omega]; rfl⟩
theorem l_lesser {a b : Int} (b1 b2 : Bool) (ha : a.natAbs < 1000000) (hb : b.natAbs < 1000000) : ∃ c, m_lesser [lD u b1 a, lD u b2 b] = .ok (.v (lD u c (min a b))) := by
  have e := s_lesser (R_rt hu ha) (R_rt hu hb) (by omega) b1 b2
  have k := (cmp0 hu ha hb).1
  have e : m_lesser [lD u b1 a, lD u b2 b] = _ := e
  rw [e]
  by_cases c : a ≤ b
  · rw [if_pos (by rw [k]; exact c)]
    exact ⟨b1, by rw [show min a b = a by omega]; rfl⟩
  · rw [if_neg (by rw [k]; exact c)]
    exact ⟨b2, by rw [show min a b = b by omega]; rfl⟩
theorem l_minus {a b : Int} (b1 b2 : Bool) (ha : a.natAbs < 400000) (hb : b.natAbs < 400000) : m_minus [lD u b1 a, lD u b2 b] = .ok (.v (lD u false (a - b))) := by
  have := s_minus (R_rt hu (v := a) (by omega)) (R_rt hu (v := b) (by omega)) (by omega) b1 b2
  rw [R_mi hu ha hb] at this
  exact this
theorem l_plus {a b : Int} (b1 b2 : Bool) (ha : a.natAbs < 400000) (hb : b.natAbs < 400000) : m_plus [lD u b1 a, lD u b2 b] = .ok (.v (lD u false (a + b))) := by
  have := s_plus (R_rt hu (v := a) (by omega)) (R_rt hu (v := b) (by omega)) (by omega) b1 b2
  rw [R_pl hu ha hb] at this
  exact this
theorem lD_f (a : Int) : lD u false a = qR u a := rfl
theorem lD_z : D.ktp [.int 0, .int 1] = lD u true 0 := by unfold lD; rw [R_zero hu]; rfl
theorem s_times1 {s : Int} (hs : s = 1 ∨ s = -1) {v : Int} (hv : v.natAbs < 400000) : m_times [.tup [.int s, .int 1], qR u v] = .ok (.v (qR u (s * v))) := by
  have hp : Rt 30 (s, 1) := by
    rcases hs with rfl | rfl
    · exact ⟨by decide, by decide, by decide, by decide⟩
    · exact ⟨by decide, by decide, by decide, by decide⟩
  have hq := R_rt hu (v := v) (by omega)
  have c1 : m_check_ratio [.tup [.int s, .int 1]] = .ok (.v .non) := s_check hp false
  have c2 : m_check_ratio [qR u v] = .ok (.v .non) := s_check hq false
  have e := s_ratio (n := s * (R u v).1) (dd_ne hp hq) (den_lt hp hq) (by omega) (by omega)
  have a1 := mulB hp.b1 hq.b1 (by omega)
  have a3 := mulB hp.b2 hq.b2 (by omega)
  simp only at a1 a3 e
  have g0 : dIx (qR u v) (.int 0) = some (.v (.int (R u v).1)) := q0 false _
  have g1 : dIx (qR u v) (.int 1) = some (.v (.int (R u v).2)) := q1 false _
  have rp : Rep (ti (s, 1) (R u v)) (s * v) (1 * u) := rep_ti hp hq (rep_self _) (R_rep hu v)
  have eq : nrm (s * (R u v).1) (1 * (R u v).2) = R u (s * v) := by
    have sv : (s * v).natAbs < 1000000 := by rcases hs with rfl | rfl <;> omega
    refine rep_uniq (ti_rt hp hq) (R_rt hu sv) (by have := u_ne hu; omega) (u_ne hu) rp (R_rep hu (s * v)) (by simp)
  rw [eq] at e
  simp [-x_mul, m_times, b_times, c1, c2, g0, g1, a1, a3, e]
  simp [-x_mul] at a3 e
  simp [-x_mul, a3, e, qR]
end
end K16

namespace K16
open PL PySem Std
theorem wide_is {t : Tm} (g : GT t) : sh t - sl t = mn t - mx t := by
  unfold sh sl
  split <;> omega
def NoA (ts : List Tm) : Prop := ∀ t ∈ ts, mx t ≤ mn t
theorem p_raised {u : Int} (hu : Un u) {ts : List Tm} (h : Ts ts) (hn : NoA ts) (wt : Int) (hw : wt.natAbs < 100000) : m_raised_values [.tup (ts.map (bD u)), qR u wt] = .ok (.v (.tup ((rv (max (wt - (ts.map sl).sum) 0) ts).map (qR u)))) := by
  have hl := h.len
  have x_t : ∀ xs : List D, dTup1 [.lst xs] = some (.v (.tup xs)) := fun _ => rfl
  have s := s_sums hu h
  have b1 := sum_bd (f := sl) fun t ht => sl_bd (h.ok t ht)
  have m0 := l_minus hu (a := wt) (b := (ts.map sl).sum) false false (by omega) (by omega)
  obtain ⟨c0, l0⟩ := l_larger hu (a := wt - (ts.map sl).sum) (b := 0) false true (by omega) (by omega)
  rw [← lD_z hu] at l0
  have m0 : m_minus [qR u wt, qR u (ts.map sl).sum] = _ := m0
  have hL : 0 ≤ max (wt - (ts.map sl).sum) 0 ∧ max (wt - (ts.map sl).sum) 0 < 200000 := by omega
  generalize max (wt - (ts.map sl).sum) 0 = L0 at *
  simp [m_raised_values, b_raised_values, s, m0, c_ZERO, l0]
  refine lp_eq ts (h := bD u) (J := fun i ρ => ∃ (b : Bool) (L : Int) (acc : List Int) (v4 v5 v6 : Option S), (0 ≤ L ∧ L < 200000) ∧ acc.length = i ∧ rv L0 ts = acc ++ rv L (ts.drop i) ∧ ρ = [some (.v (.tup (ts.map (bD u)))), some (.v (qR u wt)), some (.v (lD u b L)), some (.o (.lst (acc.map (qR u)))), v4, v5, v6]) rfl ⟨c0, L0, [], none, none, none, hL, rfl, by simp, by simp⟩ ?_ ?_
  · rintro i t _ ht ⟨b, L, acc, v4, v5, v6, hL, ha, hr, rfl⟩
    have hi := (List.getElem?_eq_some_iff.mp ht).1
    have hm := List.mem_of_getElem? ht
    have g := h.ok t hm
    have n := hn t hm
    have wi := wide_is g
    have b1 := sl_bd g
    have b2 := sh_bd g
    have m1 : m_minus [qR u (sh t), qR u (sl t)] = _ := l_minus hu (a := sh t) (b := sl t) false false (by omega) (by omega)
    obtain ⟨c1, e1⟩ := l_lesser hu (a := sh t - sl t) (b := L) false b (by omega) (by omega)
    have m2 : m_plus [qR u (sl t), lD u c1 (min (sh t - sl t) L)] = _ := l_plus hu (a := sl t) (b := min (sh t - sl t) L) false c1 (by omega) (by omega)
    have m3 := l_minus hu (a := L) (b := min (sh t - sl t) L) b c1 (by omega) (by omega)
    have k : acc.length < 16777216 := by omega
    have ed : rv L (ts.drop i) = (sl t + min (sh t - sl t) L) :: rv (L - min (sh t - sl t) L) (ts.drop (i + 1)) := by
      rw [List.drop_eq_getElem_cons hi, rv]
      have : ts[i] = t := (List.getElem?_eq_some_iff.mp ht).2
      rw [this]
    simp [b_raised_values_f1, bD, m1, e1, m2, m3, k]
    exact .inl ⟨L - min (sh t - sl t) L, by omega, acc ++ [sl t + min (sh t - sl t) L], by simp [ha], by rw [hr, ed]; simp, rfl, by rw [List.map_append]; rfl⟩
  · rintro _ ⟨b, L, acc, v4, v5, v6, hL, ha, hr, rfl⟩
    rw [List.drop_length] at hr
    simp [rv] at hr
    simp [x_t, hr]
theorem zp_zip {α β : Type} (f : α → D) (g : β → D) : ∀ (xs : List α) (ys : List β), zpD (xs.map f) (ys.map g) = (xs.zip ys).map fun p => .tup [f p.1, g p.2]
  | [], _ => by simp [zpD]
  | x :: xs, [] => by simp [zpD]
  | x :: xs, y :: ys => by
    have := zp_zip f g xs ys
    simp [zpD] at this ⊢
    exact this
theorem p_signs {u : Int} (hu : Un u) {ts : List Tm} (h : Ts ts) (vs : List Int) (hl : vs.length = ts.length) (hv : ∀ v ∈ vs, v.natAbs < 400000) : m_with_signs [.tup (ts.map (tR u)), .tup (vs.map (qR u))] = .ok (.v (.tup ((ts.zip vs).map fun p => qR u (p.1.sg * p.2)))) := by
  have hlt := h.len
  have x_t : ∀ xs : List D, dTup1 [.lst xs] = some (.v (.tup xs)) := fun _ => rfl
  have z := zp_zip (tR u) (qR u) ts vs
  have z2 : zip2 [.tup (ts.map (tR u)), .tup (vs.map (qR u))] = some (zpD (ts.map (tR u)) (vs.map (qR u))) := rfl
  rw [z] at z2
  simp [m_with_signs, b_with_signs, x_eLc, z2]
  refine lm_b (ts.zip vs) (fun p => qR u (p.1.sg * p.2)) (h := fun p => .tup [tR u p.1, qR u p.2]) rfl (by simp; omega) (fun p hp => ?_) ?_
  · obtain ⟨t, v⟩ := p
    have h1 := List.of_mem_zip hp
    have e := s_times1 hu (h.ok t h1.1).sg (v := v) (hv v h1.2)
    simp [b_with_signs_c1, tR, e]
  · simp [x_t]
end K16

namespace K16
open PL PySem Std
/-! the law's values -/
def v0 (held a : Int) (i : Nat) (t : Tm) : Int := if (i : Int) = held then a else if t.sg = 1 then mx t else mn t
def iv (held a : Int) (i : Nat) : List Tm → List Int
  | [] => []
  | t :: ts => v0 held a i t :: iv held a (i + 1) ts
def lw (held a L : Int) (i : Nat) : List Tm → List Int
  | [] => []
  | t :: ts => if (i : Int) ≠ held ∧ 0 < L then (v0 held a i t + t.sg * min L (mn t - mx t)) :: lw held a (L - min L (mn t - mx t)) (i + 1) ts else v0 held a i t :: lw held a L (i + 1) ts
theorem iv_len (held a : Int) : ∀ (ts : List Tm) (i : Nat), (iv held a i ts).length = ts.length
  | [], i => rfl
  | t :: ts, i => by simp [iv, iv_len held a ts]
theorem iv_drop (held a : Int) : ∀ (ts : List Tm) (k i : Nat), (iv held a k ts).drop i = iv held a (k + i) (ts.drop i)
  | ts, k, 0 => by simp
  | [], k, i + 1 => by simp [iv]
  | t :: ts, k, i + 1 => by
    rw [iv, List.drop_succ_cons, List.drop_succ_cons, iv_drop held a ts (k + 1) i]
    congr 1
    omega
theorem iv_take {held a : Int} {ts : List Tm} {i : Nat} {t : Tm} (ht : ts[i]? = some t) : (iv held a 0 ts).take (i + 1) = (iv held a 0 ts).take i ++ [v0 held a i t] := by
  obtain ⟨hi, e⟩ := List.getElem?_eq_some_iff.mp ht
  refine take_snoc ?_
  have d := iv_drop held a ts 0 i
  rw [List.drop_eq_getElem_cons (by rw [iv_len]; exact hi), List.drop_eq_getElem_cons hi, e, iv, Nat.zero_add] at d
  rw [List.getElem?_eq_getElem (by rw [iv_len]; exact hi)]
  exact congrArg some (List.cons.inj d).1
instance : Inhabited Tm := ⟨⟨1, []⟩⟩
def s0 (held a : Int) (ts : List Tm) : Int := ((List.range ts.length).map fun k => (ts.getD k default).sg * (iv held a 0 ts).getD k 0).sum
theorem set_mid {α : Type} {l r : List α} {a x : α} {i : Nat} (h : l.length = i) : (l ++ a :: r).set i x = l ++ x :: r := by
  subst h
  simp
def b_V3 : Sx := sSeq (sFor (iRg1 (aCons (eB dLen1 (aCons (eVar 0) (aNil))) (aNil))) (gNm [] 5) b__law_values_f3) (sRet [] (eVar 4))
theorem s_lvalues {ts : List Tm} (h : Ts ts) (wt held a : Int) (ha : a.natAbs < 100000) : m__law_values [.lst (ts.map tD), .int wt, .int held, .int a] = .ok (.o (.lst ((lw held a (wt - s0 held a ts) 0 ts).map .int))) := by
  have hl := h.len
  have x1 := x_int1' (ts.length : Int) (by omega)
  have at_v : ∀ k, k < ts.length → L2.atI ((iv held a 0 ts).map D.int) (k : Int) = some (.int ((iv held a 0 ts).getD k 0)) := fun k hk => atI_ofNat _ _ _ (by
    rw [List.getElem?_map, List.getD_eq_getElem?_getD, List.getElem?_eq_getElem (by rw [iv_len]; exact hk)]; rfl)
  have at_t : ∀ k, k < ts.length → L2.atI (ts.map tD) (k : Int) = some (tD (ts.getD k default)) := fun k hk => atI_ofNat _ _ _ (by
    rw [List.getElem?_map, List.getD_eq_getElem?_getD, List.getElem?_eq_getElem hk]; rfl)
  have gm : ∀ k, k < ts.length → GT (ts.getD k default) := fun k hk => by
    rw [List.getD_eq_getElem?_getD, List.getElem?_eq_getElem hk]
    exact h.ok _ (List.getElem_mem hk)
  have es : s0 held a ts = ((List.range ts.length).map fun k => (ts.getD k default).sg * (iv held a 0 ts).getD k 0).sum := rfl
  have i1 : ∀ f : Nat → Int, intsD ((List.range ts.length).map fun k => D.int (f k)) = some ((List.range ts.length).map f) := fun f => by
    rw [← intsD_map, List.map_map]; rfl
  have fin : ∀ (v5 v7 : Option S), Ev (b_V3 [some (.v (.lst (ts.map tD))), some (.v (.int wt)), some (.v (.int held)), some (.v (.int a)), some (.o (.lst ((iv held a 0 ts).map .int))), v5, some (.v (.int (wt - s0 held a ts))), v7, none]) (fun q => ∃ ρ, q = .ret (.o (.lst ((lw held a (wt - s0 held a ts) 0 ts).map .int))) ρ) := fun v5 v7 => by
    generalize wt - s0 held a ts = L0 at *
    simp [b_V3, x1]
    refine rg_v (J := fun i ρ => ∃ (L : Int) (pre : List Int) (v5 v7 v8 : Option S), pre.length = i ∧ lw held a L0 0 ts = pre ++ lw held a L i (ts.drop i) ∧ ρ = [some (.v (.lst (ts.map tD))), some (.v (.int wt)), some (.v (.int held)), some (.v (.int a)), some (.o (.lst ((pre ++ (iv held a 0 ts).drop i).map .int))), v5, some (.v (.int L)), v7, v8]) ⟨L0, [], v5, v7, none, rfl, by simp, by simp⟩ ?_ ?_
    · rintro i _ hi ⟨L, pre, v5, v7, v8, hp, hr, rfl⟩
      have gx : L2.atI (ts.map tD) (i : Int) = some (tD ts[i]) := atI_ofNat _ _ _ (by simp [hi])
      have g := h.ok ts[i] (List.getElem_mem hi)
      have dd : (iv held a 0 ts).drop i = v0 held a i ts[i] :: (iv held a 0 ts).drop (i + 1) := by
        rw [iv_drop, iv_drop, List.drop_eq_getElem_cons hi, iv, Nat.zero_add, Nat.zero_add]
      have dl : ts.drop i = ts[i] :: ts.drop (i + 1) := List.drop_eq_getElem_cons hi
      rw [dl] at hr
      rw [dd]
      have rl : ((iv held a 0 ts).drop (i + 1)).length = ts.length - (i + 1) := by simp [iv_len]
      generalize (iv held a 0 ts).drop (i + 1) = rest at *
      generalize ts.drop (i + 1) = tr at *
      generalize ts[i] = t at *
      have gv : L2.atI ((pre ++ v0 held a i t :: rest).map D.int) (i : Int) = some (.int (v0 held a i t)) := atI_ofNat _ _ _ (by
        rw [List.getElem?_map, List.getElem?_append_right (by omega)]; simp [hp])
      have ix := ixN_nat (n := pre.length + (rest.length + 1)) (k := i) (by omega)
      have e1 : dIx (tD t) (.int 1) = some (.v (.lst (t.rs.map pI))) := by simp [tD]
      have e0 : dIx (tD t) (.int 0) = some (.v (.int t.sg)) := by simp [tD]
      have m := s_meet g
      have ms : ∀ z : Int, dMul (.int t.sg) (.int z) = some (.v (.int (t.sg * z))) := fun z => x_mulL (by have := g.sg; omega)
      have mi : (if mn t - mx t < L then mn t - mx t else L) = min L (mn t - mx t) := by split <;> omega
      have sm : ∀ x : Int, (pre.map D.int ++ D.int (v0 held a i t) :: rest.map D.int).set i (.int x) = pre.map D.int ++ D.int x :: rest.map D.int := fun x => set_mid (by simp [hp])
      have gv : L2.atI (pre.map D.int ++ D.int (v0 held a i t) :: rest.map D.int) (i : Int) = some (.int (v0 held a i t)) := by simpa using gv
      have nx : ∀ (x L' : Int) (v8 : Option S), lw held a L0 0 ts = (pre ++ [x]) ++ lw held a L' (i + 1) tr → ∃ (L : Int) (pre' : List Int) (v5 v7 v8' : Option S), pre'.length = i + 1 ∧ lw held a L0 0 ts = pre' ++ lw held a L (i + 1) tr ∧ [some (S.v (.lst (ts.map tD))), some (.v (.int wt)), some (.v (.int held)), some (.v (.int a)), some (.o (.lst (pre.map D.int ++ D.int x :: rest.map D.int))), some (.v (.int (i : Int))), some (.v (.int L')), some (.v (.tup [.int (mx t), .int (mn t)])), v8] = [some (.v (.lst (ts.map tD))), some (.v (.int wt)), some (.v (.int held)), some (.v (.int a)), some (.o (.lst ((pre' ++ rest).map .int))), v5, some (.v (.int L)), v7, v8'] := fun x L' v8 hh => ⟨L', pre ++ [x], _, _, _, by simp [hp], hh, by simp; exact ⟨rfl, rfl, rfl⟩⟩
      by_cases c1 : (i : Int) = held
      · have hr' : lw held a L0 0 ts = (pre ++ [v0 held a i t]) ++ lw held a L (i + 1) tr := by
          rw [hr, lw, if_neg (fun z => z.1 c1)]; simp
        have n := nx _ L v8 hr'
        subst c1
        simp [b__law_values_f3, gx, e1, m]
        simp at n
        exact n
      · by_cases c2 : 0 < L
        · have hr' : lw held a L0 0 ts = (pre ++ [v0 held a i t + t.sg * min L (mn t - mx t)]) ++ lw held a (L - min L (mn t - mx t)) (i + 1) tr := by
            rw [hr, lw, if_pos ⟨c1, c2⟩]; simp
          have n := nx _ _ (some (.v (.int (min L (mn t - mx t))))) hr'
          simp [-x_mul, b__law_values_f3, gx, e1, e0, m, c1, c2, mi, gv, ms, ix, sm]
          simp at n
          exact n
        · have hr' : lw held a L0 0 ts = (pre ++ [v0 held a i t]) ++ lw held a L (i + 1) tr := by
            rw [hr, lw, if_neg (fun z => c2 z.2)]; simp
          have n := nx _ L v8 hr'
          simp [b__law_values_f3, gx, e1, m, c1, c2]
          simp at n
          exact n
    · rintro _ ⟨L, pre, v5, v7, v8, hp, hr, rfl⟩
      rw [List.drop_length] at hr
      have dn : (iv held a 0 ts).drop ts.length = [] := List.drop_eq_nil_of_le (by rw [iv_len]; omega)
      simp [lw] at hr
      simp [dn, hr]
  simp only [m__law_values, b__law_values]
  rw [← b_V3]
  generalize b_V3 = TT at fin
  simp [x1]
  refine rg_eq (J := fun i ρ => ∃ v5 v7, (v5 = none ∨ ∃ d, v5 = some (.v d)) ∧ ρ = [some (.v (.lst (ts.map tD))), some (.v (.int wt)), some (.v (.int held)), some (.v (.int a)), some (.o (.lst (((iv held a 0 ts).take i).map .int))), v5, none, v7, none]) ⟨none, none, .inl rfl, by simp⟩ ?_ ?_
  · rintro i _ hi ⟨v5, v7, h5, rfl⟩
    have gx : L2.atI (ts.map tD) (i : Int) = some (tD ts[i]) := atI_ofNat _ _ _ (by simp [hi])
    have ht : ts[i]? = some ts[i] := List.getElem?_eq_getElem hi
    have g := h.ok ts[i] (List.getElem_mem hi)
    rw [iv_take ht]
    have kl : ((iv held a 0 ts).take i).length < 16777216 := by simp [iv_len]; omega
    generalize (iv held a 0 ts).take i = vs at *
    generalize ts[i] = t at *
    have e1 : dIx (tD t) (.int 1) = some (.v (.lst (t.rs.map pI))) := by simp [tD]
    have e0 : dIx (tD t) (.int 0) = some (.v (.int t.sg)) := by simp [tD]
    have m := s_meet g
    by_cases c : (i : Int) = held
    · subst c
      have vv : v0 (i : Int) a i t = a := by unfold v0; rw [if_pos rfl]
      simp [b__law_values_f1, gx, e1, e0, m, kl, vv]
    · by_cases c2 : t.sg = 1
      · have vv : v0 held a i t = mx t := by unfold v0; rw [if_neg c, if_pos c2]
        simp [b__law_values_f1, gx, e1, e0, m, c, c2, kl, vv]
      · have vv : v0 held a i t = mn t := by unfold v0; rw [if_neg c, if_neg c2]
        simp [b__law_values_f1, gx, e1, e0, m, c, c2, kl, vv]
  rintro _ ⟨v5, v7, h5, rfl⟩
  have hv : (iv held a 0 ts).take ts.length = iv held a 0 ts := List.take_of_length_le (by rw [iv_len]; omega)
  rw [hv]
  have sumD : dSum [.lst ((List.range ts.length).map fun k => D.int ((ts.getD k default).sg * (iv held a 0 ts).getD k 0))] = some (.v (.int (s0 held a ts))) := by
    rw [x_sumL, i1 fun k => (ts.getD k default).sg * (iv held a 0 ts).getD k 0]
    rfl
  simp [x1, x_eLc]
  rcases h5 with rfl | ⟨d5, rfl⟩
  · refine lm_b (List.range ts.length) (fun k => .int ((ts.getD k default).sg * (iv held a 0 ts).getD k 0)) (h := fun k : Nat => .int (0 + (k : Int))) rfl (by simp; omega) (fun k hk => ?_) ?_
    · have hk : k < ts.length := by simpa using hk
      have a1 := at_v k hk
      have a2 := at_t k hk
      have g := gm k hk
      generalize ts.getD k default = t at *
      generalize (iv held a 0 ts).getD k 0 = x at *
      have e0 : dIx (tD t) (.int 0) = some (.v (.int t.sg)) := by simp [tD]
      have ms : ∀ z : Int, dMul (.int t.sg) (.int z) = some (.v (.int (t.sg * z))) := fun z => x_mulL (by have := g.sg; omega)
      simp [-x_mul, b__law_values_c2, a1, a2, e0, ms]
    · obtain ⟨q, e, ρ, rfl⟩ := fin none v7
      generalize (List.range ts.length).map (fun k => D.int ((ts.getD k default).sg * (iv held a 0 ts).getD k 0)) = LL at sumD
      simp [-x_sumL, sumD, e]
  · refine lm_b (List.range ts.length) (fun k => .int ((ts.getD k default).sg * (iv held a 0 ts).getD k 0)) (h := fun k : Nat => .int (0 + (k : Int))) rfl (by simp; omega) (fun k hk => ?_) ?_
    · have hk : k < ts.length := by simpa using hk
      have a1 := at_v k hk
      have a2 := at_t k hk
      have g := gm k hk
      generalize ts.getD k default = t at *
      generalize (iv held a 0 ts).getD k 0 = x at *
      have e0 : dIx (tD t) (.int 0) = some (.v (.int t.sg)) := by simp [tD]
      have ms : ∀ z : Int, dMul (.int t.sg) (.int z) = some (.v (.int (t.sg * z))) := fun z => x_mulL (by have := g.sg; omega)
      simp [-x_mul, b__law_values_c2, a1, a2, e0, ms]
    · obtain ⟨q, e, ρ, rfl⟩ := fin (some (.v d5)) v7
      generalize (List.range ts.length).map (fun k => D.int ((ts.getD k default).sg * (iv held a 0 ts).getD k 0)) = LL at sumD
      simp [-x_sumL, sumD, e]
end K16

namespace K16
open PL PySem Std
theorem iv_get (held a : Int) : ∀ (ts : List Tm) (i k : Nat), k < ts.length → (iv held a i ts).getD k 0 = v0 held a (i + k) (ts.getD k default)
  | t :: ts, i, 0, _ => by simp [iv]
  | t :: ts, i, k + 1, h => by
    have := iv_get held a ts (i + 1) k (by simpa using h)
    rw [show i + 1 + k = i + (k + 1) by omega] at this
    simpa [iv] using this
theorem v0_sl {t : Tm} (g : GT t) (i : Nat) (a : Int) : t.sg * v0 (-1) a i t = sl t := by
  unfold v0 sl
  rw [if_neg (by omega)]
  rcases g.sg with e | e <;> rw [e] <;> simp
theorem range_map {α : Type} [Inhabited α] (f : α → Int) (ts : List α) : (List.range ts.length).map (fun k => f (ts.getD k default)) = ts.map f := by
  apply List.ext_getElem
  · simp
  · intro k h1 h2
    have hk : k < ts.length := by simpa using h1
    simp [List.getD_eq_getElem?_getD, hk]
theorem s0_sl {ts : List Tm} (h : ∀ t ∈ ts, GT t) (a : Int) : s0 (-1) a ts = (ts.map sl).sum := by
  unfold s0
  rw [← range_map sl ts]
  congr 1
  refine List.map_congr_left fun k hk => ?_
  have hk : k < ts.length := by simpa using hk
  have g : GT (ts.getD k default) := by
    rw [List.getD_eq_getElem?_getD, List.getElem?_eq_getElem hk]
    exact h _ (List.getElem_mem hk)
  rw [iv_get (-1) a ts 0 k hk]
  exact v0_sl g _ a
theorem lw_rv (a : Int) : ∀ (ts : List Tm) (i : Nat) (L : Int), (∀ t ∈ ts, GT t) → NoA ts → lw (-1) a L i ts = (ts.zip (rv (max L 0) ts)).map fun p => p.1.sg * p.2
  | [], i, L, _, _ => rfl
  | t :: ts, i, L, h, hn => by
    have g := h t (List.mem_cons_self ..)
    have n := hn t (List.mem_cons_self ..)
    have wi := wide_is g
    have vs := v0_sl g i a
    have e : t.sg * sl t = v0 (-1) a i t := by
      rw [← vs, ← Int.mul_assoc]
      rcases g.sg with e | e <;> rw [e] <;> simp
    have ih := fun L => lw_rv a ts (i + 1) L (fun x hx => h x (List.mem_cons_of_mem _ hx)) fun x hx => hn x (List.mem_cons_of_mem _ hx)
    rw [lw, rv, List.zip_cons_cons, List.map_cons]
    by_cases c : 0 < L
    · rw [if_pos ⟨by omega, c⟩]
      have e1 : max L 0 = L := by omega
      have e2 : min (sh t - sl t) L = min L (mn t - mx t) := by omega
      rw [e1, e2, ih, Int.mul_add, e]
      have e3 : max (L - min L (mn t - mx t)) 0 = L - min L (mn t - mx t) := by omega
      rw [e3]
    · rw [if_neg (fun z => c z.2)]
      have e1 : max L 0 = 0 := by omega
      have e2 : min (sh t - sl t) 0 = 0 := by omega
      rw [e1, e2, ih, Int.add_zero, e]
      rw [e1]
      simp
/-! the answer -/
def yesD (u : Int) (ts : List Tm) (w : Int × Int) : D := .tup [.str "yes", .tup ((ts.zip (rv (max (w.1 - (ts.map sl).sum) 0) ts)).map fun p => qR u (p.1.sg * p.2))]
def anD (u : Int) (ts : List Tm) (w : Int × Int) : D := match apF 0 ts with
  | some d => .tup [.str "no", d]
  | none => if w.2 < (ts.map sl).sum then .tup [.str "no", .tup [.str "over", qR u ((ts.map sl).sum - w.2)]] else if (ts.map sh).sum < w.1 then .tup [.str "no", .tup [.str "under", qR u (w.1 - (ts.map sh).sum)]] else yesD u ts w
theorem apF_non {ts : List Tm} : ∀ {k : Nat} {d : D}, apF k ts = some d → dIsNon d = false := by
  induction ts with
  | nil => intro k d h; cases h
  | cons y l ih =>
    intro k d h
    unfold apF at h
    split at h
    · cases h; rfl
    · exact ih h
theorem noA_of {ts : List Tm} (h : apF 0 ts = none) : NoA ts := fun t ht => by
  have := (any_apF ts).mp h
  unfold anyA at this
  rw [List.any_eq_false] at this
  have := this t ht
  simp at this
  exact this
theorem rv_bd {ts : List Tm} (h : ∀ t ∈ ts, GT t) (hn : NoA ts) : ∀ (L : Int), 0 ≤ L → ∀ v ∈ rv L ts, v.natAbs < 1000 := by
  induction ts with
  | nil => intro L _ v hv; cases hv
  | cons t ts ih =>
    intro L hL v hv
    have g := h t (List.mem_cons_self ..)
    have n := hn t (List.mem_cons_self ..)
    have wi := wide_is g
    have b1 := sl_bd g
    have b2 := sh_bd g
    rw [rv] at hv
    rcases List.mem_cons.mp hv with rfl | hv
    · omega
    · exact ih (fun x hx => h x (List.mem_cons_of_mem _ hx)) (fun x hx => hn x (List.mem_cons_of_mem _ hx)) _ (by omega) v hv
theorem p_settle {u : Int} (hu : Un u) (us : u ≤ 1000) {ts : List Tm} (h : Ts ts) (w : Int × Int) (w1 : w.1.natAbs < 10000) (w2 : w.2.natAbs < 10000) (hw : w.1 ≤ w.2) : m_settle_strike [sD u ts w] = .ok (.v (anD u ts w)) := by
  have c := s_checkS hu us h w (by omega) (by omega) hw
  have f := p_first hu h
  have b := s_bounds hu h
  have s := s_sums hu h
  have hl := h.len
  have b1 := sum_bd (f := sl) fun t ht => sl_bd (h.ok t ht)
  have b2 := sum_bd (f := sh) fun t ht => sh_bd (h.ok t ht)
  obtain ⟨p, q⟩ := w
  simp only at w1 w2 hw
  simp only [sD, rd] at c
  unfold anD
  cases e : apF 0 ts with
  | some d =>
    have dn := apF_non e
    rw [e] at f
    simp at f
    simp [m_settle_strike, b_settle_strike, sD, rd, c, f, dn]
  | none =>
    have na := noA_of e
    rw [e] at f
    simp at f
    have r := p_raised hu h na p (by omega)
    have sg := p_signs hu h (rv (max (p - (ts.map sl).sum) 0) ts) (rv_len _ _) (fun v hv => by
      have := rv_bd h.ok na _ (by omega) v hv
      omega)
    have c1 := r_cmp hu (a := (ts.map sl).sum) (b := q) (by omega) (by omega)
    have c2 := r_cmp hu (a := (ts.map sh).sum) (b := p) (by omega) (by omega)
    have m1 := r_minus hu (a := (ts.map sl).sum) (b := q) (by omega) (by omega)
    have m2 := r_minus hu (a := p) (b := (ts.map sh).sum) (by omega) (by omega)
    simp only [yesD]
    generalize (ts.zip (rv (max (p - (ts.map sl).sum) 0) ts)).map (fun p => qR u (p.1.sg * p.2)) = YY at *
    generalize (rv (max (p - (ts.map sl).sum) 0) ts).map (qR u) = VV at *
    generalize (ts.map sl).sum = A at *
    generalize (ts.map sh).sum = B at *
    by_cases k1 : q < A
    · have k1' : ¬ A < q := by omega
      simp [k1, k1'] at c1
      simp [m_settle_strike, b_settle_strike, sD, rd, c, f, b, s, c1, m1, k1]
    · have z1 : ¬ (if A < q then (-1 : Int) else if q < A then 1 else 0) > 0 := by rw [if_neg k1]; split <;> omega
      generalize (if A < q then (-1 : Int) else if q < A then 1 else 0) = Z1 at *
      by_cases k2 : B < p
      · simp [k2] at c2
        simp [m_settle_strike, b_settle_strike, sD, rd, c, f, b, s, c1, z1, c2, m2, k1, k2]
      · have z2 : ¬ (if B < p then (-1 : Int) else if p < B then 1 else 0) < 0 := by rw [if_neg k2]; split <;> omega
        generalize (if B < p then (-1 : Int) else if p < B then 1 else 0) = Z2 at *
        simp [m_settle_strike, b_settle_strike, sD, rd, c, f, b, s, c1, z1, c2, z2, k1, k2, r, sg]
theorem s_due {u : Int} (hu : Un u) {ts : List Tm} (h : Ts ts) (w : Int × Int) (w1 : w.1.natAbs < 10000) (w2 : w.2.natAbs < 10000) : m__law_due [.lst (ts.map tD), pI w, .int u] = .ok (.v (anD u ts w)) := by
  have hl := h.len
  have f := s_lapart h.ok h.len
  have en := s_ends h.ok
  have b1 := sum_bd (f := sl) fun t ht => sl_bd (h.ok t ht)
  have b2 := sum_bd (f := sh) fun t ht => sh_bd (h.ok t ht)
  have x_t : ∀ xs : List D, dTup1 [.lst xs] = some (.v (.tup xs)) := fun _ => rfl
  obtain ⟨p, q⟩ := w
  simp only at w1 w2
  unfold anD
  cases e : apF 0 ts with
  | some d =>
    have dn := apF_non e
    rw [e] at f
    simp at f
    simp [m__law_due, b__law_due, pI, f, dn]
  | none =>
    have na := noA_of e
    rw [e] at f
    simp at f
    have l := s_lvalues h p (-1) 0 (by decide)
    rw [s0_sl h.ok, lw_rv 0 ts 0 _ h.ok na] at l
    have r1 := s_lratio hu ((ts.map sl).sum - q) (by omega)
    have r2 := s_lratio hu (p - (ts.map sh).sum) (by omega)
    have vb := rv_bd h.ok na (max (p - (ts.map sl).sum) 0) (by omega)
    have vl := rv_len (max (p - (ts.map sl).sum) 0) ts
    simp only [yesD]
    generalize rv (max (p - (ts.map sl).sum) 0) ts = VV at *
    generalize (ts.map sl).sum = A at *
    generalize (ts.map sh).sum = B at *
    by_cases k1 : q < A
    · simp [m__law_due, b__law_due, pI, f, en, k1, r1]
    · by_cases k2 : B < p
      · simp [m__law_due, b__law_due, pI, f, en, k1, k2, r2]
      · simp only [m__law_due, b__law_due]
        rw [List.map_map] at l
        simp [pI, f, en, k1, k2, l, x_eLc]
        refine lm_b (ts.zip VV) (fun p => qR u (p.1.sg * p.2)) (h := fun p => .int (p.1.sg * p.2)) rfl (by simp; omega) (fun p hp => ?_) ?_
        · obtain ⟨t, v⟩ := p
          have h1 := List.of_mem_zip hp
          have g := (h.ok t h1.1).sg
          have b := vb v h1.2
          have r := s_lratio hu (t.sg * v) (by rcases g with e | e <;> rw [e] <;> omega)
          simp [b__law_due_c1, r]
        · simp [x_t]
end K16

namespace K16
open PL PySem Std
/-! a finer unit -/
theorem dEq_q (p q : QQ) : dEq (qD p) (qD q) = some (decide (p = q)) := by
  have e := eq_qD p q
  unfold qD at *
  rw [dEq_tt rfl rfl (by simp) (by simp), ← eq_tt, e]
theorem un60 {u : Int} (hu : Un u) (us : u ≤ 1000) : Un (60 * u) := ⟨by have := hu.lo; omega, by omega⟩
theorem R_sc {u : Int} (hu : Un u) (us : u ≤ 1000) {v : Int} (hv : v.natAbs < 16000) : R (60 * u) (60 * v) = R u v := by
  have hU := un60 hu us
  exact rep_uniq (R_rt hU (v := 60 * v) (by omega)) (R_rt hu (v := v) (by omega)) (u_ne hU) (u_ne hu) (R_rep hU _) (R_rep hu _) (by grind)
theorem qR_sc {u : Int} (hu : Un u) (us : u ≤ 1000) {v : Int} (hv : v.natAbs < 16000) : qR u v = qR (60 * u) (60 * v) := by
  unfold qR
  rw [R_sc hu us hv]
theorem R_rtA {u : Int} (hu : Un u) (v : Int) : ∃ k, Rt k (R u v) := ⟨v.natAbs + u.natAbs, nrm_rt (u_ne hu) (Nat.lt_of_le_of_lt (Nat.le_add_right ..) Nat.lt_two_pow_self) (Nat.lt_of_le_of_lt (Nat.le_add_left ..) Nat.lt_two_pow_self)⟩
theorem l_w (d : D) (h : noD d = true) : m__law_is_whole [d] = .ok (.v (.bl (isW d))) := Std.s_is_whole d h
theorem parts_pair {u : Int} (hu : Un u) (us : u ≤ 1000) (a b : Int) : m__law_parts [qD (a, b), .int u] = .ok (.v (if 1 ≤ b ∧ 60 * u % b = 0 ∧ R (60 * u) (a * (60 * u / b)) = (a, b) then .int (a * (60 * u / b)) else .non)) := by
  have hU := un60 hu us
  have U1 := hU.lo
  have U2 := hU.hi
  have m1 : dMul (.int u) (.int 60) = some (.v (.int (60 * u))) := by rw [x_mulR (by decide), Int.mul_comm]
  have w1 := l_w (.int a) rfl
  have w2 := l_w (.int b) rfl
  generalize 60 * u = U at *
  by_cases c1 : 1 ≤ b
  · by_cases c2 : U % b = 0
    · have hb : b ≤ U := Int.le_of_dvd (by omega) (Int.dvd_of_emod_eq_zero c2)
      have m2 : dDiv (.int U) (.int b) = some (.v (.int (U / b))) := divS U (by omega) (by omega)
      have q0 : 0 ≤ U / b := Int.ediv_nonneg (by omega) (by omega)
      have q1 : U / b ≤ U := Int.ediv_le_self _ (by omega)
      have m3 : dMul (.int a) (.int (U / b)) = some (.v (.int (a * (U / b)))) := x_mulR (by omega)
      have e := s_lratioA hU (a * (U / b))
      generalize a * (U / b) = x at *
      have q := dEq_q (R U x) (a, b)
      have c1' : ¬ b < 1 := by omega
      have c1'' : 0 < b := by omega
      have q : dEq (qR U x) (.tup [.int a, .int b]) = _ := q
      by_cases c3 : R U x = (a, b)
      · simp [-x_mul, -x_div, m__law_parts, b__law_parts, qD, w1, w2, m1, m2, m3, e, q, c1, c1', c1'', c2, c3]
      · simp [-x_mul, -x_div, m__law_parts, b__law_parts, qD, w1, w2, m1, m2, m3, e, q, c1, c1', c1'', c2, c3]
    · have c1' : ¬ b < 1 := by omega
      have c1'' : 0 < b := by omega
      simp [-x_mul, -x_div, m__law_parts, b__law_parts, qD, w1, w2, m1, c1, c1', c1'', c2]
  · have c1' : b < 1 := by omega
    simp [-x_mul, -x_div, m__law_parts, b__law_parts, qD, w1, w2, m1, c1, c1']
theorem parts_ok {u : Int} (hu : Un u) (us : u ≤ 1000) (x : Int) : m__law_parts [qR (60 * u) x, .int u] = .ok (.v (.int x)) := by
  have hU := un60 hu us
  have e := parts_pair hu us (R (60 * u) x).1 (R (60 * u) x).2
  obtain ⟨k, rt⟩ := R_rtA hU x
  have p := rt.pos
  have r := R_rep hU x
  unfold Rep at r
  have d : (60 * u) % (R (60 * u) x).2 = 0 := by
    have e2 := Int.ediv_mul_cancel (sgn_dr x (60 * u))
    have e2 : (R (60 * u) x).2 * sgn x (60 * u) = 60 * u := e2
    exact Int.emod_eq_zero_of_dvd ⟨_, e2.symm⟩
  have ed : (R (60 * u) x).1 * (60 * u / (R (60 * u) x).2) = x := by
    have h1 := Int.ediv_mul_cancel (Int.dvd_of_emod_eq_zero d)
    have hU1 := u_ne hU
    refine Int.eq_of_mul_eq_mul_right (show (R (60 * u) x).2 ≠ 0 by omega) ?_
    rw [Int.mul_assoc, h1]
    exact r
  have e : m__law_parts [qR (60 * u) x, .int u] = _ := e
  rw [e, ed, if_pos ⟨p, d, rfl⟩]
/-- no ratio for either -/
structure Bad (u : Int) (d : D) : Prop where
  n : noD d = true
  p : m_is_ratio [d] = .ok (.v (.bl false))
  l : m__law_parts [d, .int u] = .ok (.v .non)
theorem bad_pair {u : Int} (hu : Un u) (us : u ≤ 1000) {a b : Int} (h : ¬ (1 ≤ b ∧ Int.gcd a b = 1)) : Bad u (qD (a, b)) := by
  refine ⟨rfl, ?_, ?_⟩
  · have t : m_is_tuple_of [qD (a, b), .int 2, .int 2] = .ok (.v (.bl true)) := t_tup _ 2 2 rfl
    have w1 := t_w (.int a) rfl
    have w2 := t_w (.int b) rfl
    have t : m_is_tuple_of [.tup [.int a, .int b], .int 2, .int 2] = .ok (.v (.bl true)) := t
    by_cases c : b < 1
    · simp [m_is_ratio, b_is_ratio, qD, t, w1, w2, c]
    · have g : ¬ ((a.natAbs.gcd b.natAbs : Nat) : Int) = 1 := fun z => h ⟨by omega, by have : Int.gcd a b = a.natAbs.gcd b.natAbs := rfl; omega⟩
      simp [m_is_ratio, b_is_ratio, qD, t, w1, w2, c, g]
  · rw [parts_pair hu us, if_neg]
    rintro ⟨h1, _, h3⟩
    obtain ⟨k, rt⟩ := R_rtA (un60 hu us) (a * (60 * u / b))
    rw [h3] at rt
    exact h ⟨rt.pos, rt.g⟩
theorem bad_int (u i : Int) : Bad u (.int i) := by
  have t := t_tup (.int i) 2 2 rfl
  simp at t
  exact ⟨rfl, by simp [m_is_ratio, b_is_ratio, t], by simp [m__law_parts, b__law_parts]⟩
theorem bad_str (u : Int) (z : Str) : Bad u (.str z) := by
  have t := t_tup (.str z) 2 2 rfl
  simp at t
  exact ⟨rfl, by simp [m_is_ratio, b_is_ratio, t], by simp [m__law_parts, b__law_parts]⟩
end K16

namespace K16
open PL PySem Std
theorem r_lies {U : Int} (hU : Un U) {a b x : Int} (ha : a.natAbs < 1000000) (hb : b.natAbs < 1000000) (hx : x.natAbs < 1000000) : m_lies_in [qR U x, .tup [qR U a, qR U b]] = .ok (.v (.bl (decide (a ≤ x ∧ x ≤ b)))) := by
  have e1 := r_cmp hU ha hx
  have e2 := r_cmp hU hx hb
  have k1 : ((if a < x then (-1 : Int) else if x < a then 1 else 0) ≤ 0) = (a ≤ x) := propext (by split <;> (try split) <;> omega)
  have k2 : ((if x < b then (-1 : Int) else if b < x then 1 else 0) ≤ 0) = (x ≤ b) := propext (by split <;> (try split) <;> omega)
  generalize (if a < x then (-1 : Int) else if x < a then 1 else 0) = z1 at *
  generalize (if x < b then (-1 : Int) else if b < x then 1 else 0) = z2 at *
  by_cases c1 : a ≤ x <;> by_cases c2 : x ≤ b <;> simp [m_lies_in, b_lies_in, e1, e2, k1, k2, c1, c2]
theorem p_signs2 {u U : Int} (hu : Un U) {ts : List Tm} (h : Ts ts) (vs : List Int) (hl : vs.length = ts.length) (hv : ∀ v ∈ vs, v.natAbs < 400000) : m_with_signs [.tup (ts.map (tR u)), .tup (vs.map (qR U))] = .ok (.v (.tup ((ts.zip vs).map fun p => qR U (p.1.sg * p.2)))) := by
  have hlt := h.len
  have x_t : ∀ xs : List D, dTup1 [.lst xs] = some (.v (.tup xs)) := fun _ => rfl
  have z := zp_zip (tR u) (qR U) ts vs
  have z2 : zip2 [.tup (ts.map (tR u)), .tup (vs.map (qR U))] = some (zpD (ts.map (tR u)) (vs.map (qR U))) := rfl
  rw [z] at z2
  simp [m_with_signs, b_with_signs, x_eLc, z2]
  refine lm_b (ts.zip vs) (fun p => qR U (p.1.sg * p.2)) (h := fun p => .tup [tR u p.1, qR U p.2]) rfl (by simp; omega) (fun p hp => ?_) ?_
  · obtain ⟨t, v⟩ := p
    have h1 := List.of_mem_zip hp
    have e := s_times1 hu (h.ok t h1.1).sg (v := v) (hv v h1.2)
    simp [b_with_signs_c1, tR, e]
  · simp [x_t]
theorem sum_take2 (vs : List Int) (hv : ∀ v ∈ vs, -30000 ≤ v ∧ v ≤ 30000) (i : Nat) : -(30000 * (i : Int)) ≤ (vs.take i).sum ∧ (vs.take i).sum ≤ 30000 * (i : Int) := by
  induction i with
  | zero => simp
  | succ i ih =>
    rcases Nat.lt_or_ge i vs.length with hi | hi
    · have e := take_snoc (List.getElem?_eq_getElem hi)
      have b := hv vs[i] (List.getElem_mem hi)
      rw [e, List.sum_append]
      simp
      omega
    · have e1 : vs.take (i + 1) = vs := List.take_of_length_le (by omega)
      have e2 : vs.take i = vs := List.take_of_length_le hi
      rw [e1]
      rw [e2] at ih
      omega
theorem s_tot2 {u : Int} (hu : Un u) (vs : List Int) (hv : ∀ v ∈ vs, -30000 ≤ v ∧ v ≤ 30000) (hl : vs.length ≤ 10) : m_total [.tup (vs.map (qR u))] = .ok (.v (qR u vs.sum)) := by
  have z : D.tup [.int 0, .int 1] = qR u 0 := by unfold qR; rw [R_zero hu]; rfl
  simp [m_total, b_total]
  refine lp_eq vs (h := qR u) (J := fun i ρ => ∃ v1, ρ = [some (.v (.tup (vs.map (qR u)))), v1, none]) rfl ⟨none, rfl⟩ ?_ ?_
  · rintro i v _ hi ⟨v1, rfl⟩
    have b := hv v (List.mem_of_getElem? hi)
    have e : m_check_ratio [qR u v] = _ := s_check (R_rt hu (v := v) (by omega)) false
    simp [b_total_f1, e]
  rintro _ ⟨v1, rfl⟩
  simp [z]
  refine lp_eq vs (h := qR u) (J := fun i ρ => ∃ v1, ρ = [some (.v (.tup (vs.map (qR u)))), v1, some (.v (qR u (vs.take i).sum))]) rfl ⟨v1, by simp⟩ ?_ ?_
  · rintro i v _ hi ⟨v1, rfl⟩
    have hlt := (List.getElem?_eq_some_iff.mp hi).1
    have b := hv v (List.mem_of_getElem? hi)
    have s := sum_take2 vs hv i
    have e := r_plus hu (a := (vs.take i).sum) (b := v) (by omega) (by omega)
    rw [take_snoc hi]
    simp [b_total_f2, e]
  · rintro _ ⟨v1, rfl⟩
    simp
/-! measures -/
def okE (t : Tm) (x : Int) : Bool := t.rs.all fun r => decide (60 * r.1 ≤ x ∧ x ≤ 60 * r.2)
def zs (ts : List Tm) (xs : List Int) : List Int := (ts.zip xs).map fun p => p.1.sg * p.2
def yesB (ts : List Tm) (w : Int × Int) (xs : List Int) : Bool := decide (xs.length = ts.length) && ((ts.zip xs).all fun p => okE p.1 p.2) && decide (60 * w.1 ≤ (zs ts xs).sum ∧ (zs ts xs).sum ≤ 60 * w.2)
theorem okE_iff {t : Tm} (g : GT t) (x : Int) : okE t x = true ↔ 60 * mx t ≤ x ∧ x ≤ 60 * mn t := by
  unfold okE
  rw [List.all_eq_true]
  constructor
  · intro h
    obtain ⟨r, hr, e⟩ := List.mem_map.mp (mx_mem g)
    obtain ⟨s, hs, f⟩ := List.mem_map.mp (mn_mem g)
    have h1 := of_decide_eq_true (h r hr)
    have h2 := of_decide_eq_true (h s hs)
    rw [← e, ← f]
    exact ⟨h1.1, h2.2⟩
  · intro h r hr
    have h1 := mx_le hr
    have h2 := mn_le hr
    exact decide_eq_true (by omega)
theorem bls_all {α : Type} (f : α → Bool) : ∀ ts : List α, blsD (ts.map fun t => .bl (f t)) = some (ts.map f)
  | [] => rfl
  | t :: ts => by
    have := bls_all f ts
    simp [blsD] at this ⊢
    exact this
theorem zs_bd {ts : List Tm} (h : Ts ts) {xs : List Int} (hx : ∀ x ∈ xs, x.natAbs ≤ 30000) : (∀ v ∈ zs ts xs, -30000 ≤ v ∧ v ≤ 30000) ∧ (zs ts xs).length ≤ 6 := by
  have hl := h.len
  refine ⟨fun v hv => ?_, by simp [zs]; omega⟩
  obtain ⟨⟨t, x⟩, hp, rfl⟩ := List.mem_map.mp hv
  have h1 := List.of_mem_zip hp
  have := hx x h1.2
  show -30000 ≤ t.sg * x ∧ t.sg * x ≤ 30000
  rcases (h.ok t h1.1).sg with e | e <;> rw [e] <;> omega
theorem all_no {ts : List Tm} {xs : List Int} {w : Int × Int} {p : Tm × Int} (hp : p ∈ ts.zip xs) (c : ¬ okE p.1 p.2 = true) : yesB ts w xs = false := by
  have : ((ts.zip xs).all fun p => okE p.1 p.2) = false := by
    rw [List.all_eq_false]
    exact ⟨p, hp, c⟩
  unfold yesB
  rw [this]
  simp
theorem pA {u : Int} (hu : Un u) (us : u ≤ 1000) {ts : List Tm} (h : Ts ts) (w : Int × Int) (w1 : w.1.natAbs < 10000) (w2 : w.2.natAbs < 10000) (xs : List Int) (hx : ∀ x ∈ xs, x.natAbs ≤ 30000) (hlx : xs.length ≤ 1000) :
    m_are_measures [sD u ts w, .tup (xs.map (qR (60 * u)))] = .ok (.v (.bl (yesB ts w xs))) := by
  have hU := un60 hu us
  have hl := h.len
  have g0 : dIx (sD u ts w) (.int 0) = some (.v (.tup (ts.map (tR u)))) := by simp [sD]
  have g1 : dIx (sD u ts w) (.int 1) = some (.v (rd u w)) := by simp [sD]
  have rw_ : rd u w = .tup [qR (60 * u) (60 * w.1), qR (60 * u) (60 * w.2)] := by
    unfold rd
    rw [qR_sc hu us (v := w.1) (by omega), qR_sc hu us (v := w.2) (by omega)]
  generalize sD u ts w = S at *
  have t := t_tup (.tup (xs.map (qR (60 * u)))) ts.length ts.length rfl
  by_cases c : xs.length = ts.length
  · simp [c] at t
    simp [m_are_measures, b_are_measures, g0, t, x_eLc]
    refine lm_b xs (fun _ => .bl true) (h := qR (60 * u)) rfl (by omega) (fun x hm => ?_) ?_
    · have := hx x hm
      have e := c_rt hU x (by omega)
      simp [b_are_measures_c1, e]
    have z := zp_zip (tR u) (qR (60 * u)) ts xs
    have z2 : zip2 [.tup (ts.map (tR u)), .tup (xs.map (qR (60 * u)))] = some (zpD (ts.map (tR u)) (xs.map (qR (60 * u)))) := rfl
    rw [z] at z2
    simp [all_true, z2]
    refine lp_eq (ts.zip xs) (h := fun p => .tup [tR u p.1, qR (60 * u) p.2]) (J := fun i ρ => (∀ p ∈ (ts.zip xs).take i, okE p.1 p.2 = true) ∧ ∃ v3 v4 v5 v6 v7, ρ = [some (.v S), some (.v (.tup (xs.map (qR (60 * u))))), some (.v (.tup (ts.map (tR u)))), v3, v4, v5, v6, v7]) rfl ⟨by simp, none, none, none, none, none, rfl⟩ ?_ ?_
    · rintro i ⟨t, x⟩ _ hi ⟨hw, v3, v4, v5, v6, v7, rfl⟩
      have hm := List.mem_of_getElem? hi
      have h1 := List.of_mem_zip hm
      have g := h.ok t h1.1
      have bx := hx x h1.2
      have gl := g.len
      have oe : (t.rs.map fun r => decide (60 * r.1 ≤ x ∧ x ≤ 60 * r.2)).all id = okE t x := by
        unfold okE
        rw [List.all_map]
        rfl
      have ba := bls_all (fun r : Int × Int => decide (60 * r.1 ≤ x ∧ x ≤ 60 * r.2)) t.rs
      have ad : dAll [.lst (t.rs.map fun r => .bl (decide (60 * r.1 ≤ x ∧ x ≤ 60 * r.2)))] = some (.v (.bl (okE t x))) := by
        rw [x_allL, ba, ← oe]
        rfl
      have an := all_no (w := w) hm
      have sn := take_snoc hi
      simp [b_are_measures_f3, tR, x_eLc]
      refine lm_a t.rs (fun r => .bl (decide (60 * r.1 ≤ x ∧ x ≤ 60 * r.2))) (h := rd u) rfl (by omega) (fun r hr => ?_) ?_
      · have b := gr_bd (g.rd r hr)
        have e := r_lies hU (a := 60 * r.1) (b := 60 * r.2) (x := x) (by omega) (by omega) (by omega)
        rw [← qR_sc hu us (v := r.1) (by omega), ← qR_sc hu us (v := r.2) (by omega)] at e
        have e : m_lies_in [qR (60 * u) x, rd u r] = _ := e
        simp [b_are_measures_c2, e]
      · generalize (t.rs.map fun r => D.bl (decide (60 * r.1 ≤ x ∧ x ≤ 60 * r.2))) = LL at *
        by_cases k : okE t x = true
        · rw [k] at ad
          have nw : ∀ p ∈ (ts.zip xs).take (i + 1), okE p.1 p.2 = true := fun p hp => by
            rw [sn] at hp
            rcases List.mem_append.mp hp with q | q
            · exact hw p q
            · cases List.mem_singleton.mp q; exact k
          simp [-x_allL, ad]
          simpa using nw
        · have k' : okE t x = false := by simpa using k
          rw [k'] at ad
          simp [-x_allL, ad, an k]
    · rintro _ ⟨hw, v3, v4, v5, v6, v7, rfl⟩
      rw [List.take_length] at hw
      have sg := p_signs2 (u := u) hU h xs c fun v hv => by have := hx v hv; omega
      obtain ⟨zb, zl⟩ := zs_bd h hx
      have tt := s_tot2 hU (zs ts xs) zb (by omega)
      have e1 : (zs ts xs).map (qR (60 * u)) = (ts.zip xs).map fun p => qR (60 * u) (p.1.sg * p.2) := by
        unfold zs
        rw [List.map_map]
        rfl
      rw [e1] at tt
      have zb2 := sum_take2 (zs ts xs) zb 6
      rw [List.take_of_length_le zl] at zb2
      have li := r_lies hU (a := 60 * w.1) (b := 60 * w.2) (x := (zs ts xs).sum) (by omega) (by omega) (by omega)
      rw [← rw_] at li
      have al : ((ts.zip xs).all fun p => okE p.1 p.2) = true := by
        rw [List.all_eq_true]
        exact hw
      have ye : yesB ts w xs = decide (60 * w.1 ≤ (zs ts xs).sum ∧ (zs ts xs).sum ≤ 60 * w.2) := by
        unfold yesB
        rw [al]
        simp [c]
      rw [ye]
      generalize (zs ts xs).sum = Z at *
      generalize ((ts.zip xs).map fun p => qR (60 * u) (p.1.sg * p.2)) = ZZ at *
      generalize rd u w = RW at *
      simp [sg, tt, g1, li]
  · have c' : ¬ ((ts.length : Int) ≤ xs.length ∧ (xs.length : Int) ≤ ts.length) := by omega
    have ye : yesB ts w xs = false := by
      unfold yesB
      simp [c]
    have tb : isTup ts.length ts.length (.tup (xs.map (qR (60 * u)))) = false := by
      simp [isTup]
      omega
    rw [tb] at t
    rw [ye]
    simp [m_are_measures, b_are_measures, g0, t]
end K16

namespace K16
open PL PySem Std
theorem lA {u : Int} (hu : Un u) (us : u ≤ 1000) {ts : List Tm} (h : Ts ts) (w : Int × Int) (xs : List Int) (hx : ∀ x ∈ xs, x.natAbs ≤ 30000) :
    m__law_yes [.lst (ts.map tD), pI w, .int u, .tup (xs.map (qR (60 * u)))] = .ok (.v (.bl (yesB ts w xs))) := by
  have hl := h.len
  obtain ⟨p, q⟩ := w
  by_cases c : xs.length = ts.length
  · have x1 := x_int1' (ts.length : Int) (by omega)
    have m6 : ∀ z : Int, dMul (.int 60) (.int z) = some (.v (.int (60 * z))) := fun z => x_mulL (by decide)
    simp [m__law_yes, b__law_yes, c, x1]
    refine rg_eq (J := fun i ρ => (∀ p ∈ (ts.zip xs).take i, okE p.1 p.2 = true) ∧ ∃ v5 v6 v7, ρ = [some (.v (.lst (ts.map tD))), some (.v (pI (p, q))), some (.v (.int u)), some (.v (.tup (xs.map (qR (60 * u))))), some (.v (.int ((zs ts xs).take i).sum)), v5, v6, v7]) ⟨by simp, none, none, none, by simp⟩ ?_ ?_
    · rintro i _ hi ⟨hw, v5, v6, v7, rfl⟩
      have hix : i < xs.length := by omega
      have hz : (ts.zip xs)[i]? = some (ts[i], xs[i]) := by rw [List.getElem?_eq_getElem (by simp; omega)]; simp
      have gt : L2.atI (ts.map tD) (i : Int) = some (tD ts[i]) := atI_ofNat _ _ _ (by simp [hi])
      have gx : L2.atI (xs.map (qR (60 * u))) (i : Int) = some (qR (60 * u) xs[i]) := atI_ofNat _ _ _ (by simp [hix])
      have g := h.ok ts[i] (List.getElem_mem hi)
      have bx := hx xs[i] (List.getElem_mem hix)
      have sz : (zs ts xs).take (i + 1) = (zs ts xs).take i ++ [ts[i].sg * xs[i]] := take_snoc (by unfold zs; rw [List.getElem?_map, hz]; rfl)
      have an := all_no (w := (p, q)) (List.mem_of_getElem? hz)
      have sn := take_snoc hz
      have es := parts_ok hu us xs[i]
      rw [sz]
      have ok := okE_iff g xs[i]
      generalize ts[i] = t at *
      generalize xs[i] = x at *
      have e1 : dIx (tD t) (.int 1) = some (.v (.lst (t.rs.map pI))) := by simp [tD]
      have e0 : dIx (tD t) (.int 0) = some (.v (.int t.sg)) := by simp [tD]
      have m := s_meet g
      have ms : dMul (.int t.sg) (.int x) = some (.v (.int (t.sg * x))) := x_mulL (by have := g.sg; omega)
      by_cases k1 : x < 60 * mx t
      · have k : ¬ okE t x = true := fun z => by have := ok.mp z; omega
        simp [-x_mul, b__law_yes_f1, gt, gx, es, e1, m, m6, k1, an k]
      · by_cases k2 : 60 * mn t < x
        · have k : ¬ okE t x = true := fun z => by have := ok.mp z; omega
          simp [-x_mul, b__law_yes_f1, gt, gx, es, e1, m, m6, k1, k2, an k]
        · have k : okE t x = true := ok.mpr (by omega)
          have nw : ∀ p ∈ (ts.zip xs).take (i + 1), okE p.1 p.2 = true := fun p hp => by
            rw [sn] at hp
            rcases List.mem_append.mp hp with q | q
            · exact hw p q
            · cases List.mem_singleton.mp q; exact k
          simp [-x_mul, b__law_yes_f1, gt, gx, es, e1, e0, m, m6, k1, k2, ms]
          simpa using nw
    · rintro _ ⟨hw, v5, v6, v7, rfl⟩
      have hz : (zs ts xs).take ts.length = zs ts xs := List.take_of_length_le (by simp [zs]; omega)
      have hz2 : (ts.zip xs).take ts.length = ts.zip xs := List.take_of_length_le (by simp; omega)
      rw [hz2] at hw
      rw [hz]
      have al : ((ts.zip xs).all fun p => okE p.1 p.2) = true := by
        rw [List.all_eq_true]
        exact hw
      have ye : yesB ts (p, q) xs = decide (60 * p ≤ (zs ts xs).sum ∧ (zs ts xs).sum ≤ 60 * q) := by
        unfold yesB
        rw [al]
        simp [c]
      rw [ye]
      generalize (zs ts xs).sum = Z at *
      by_cases k1 : 60 * p ≤ Z <;> by_cases k2 : Z ≤ 60 * q <;> simp [-x_mul, pI, m6, k1, k2]
  · have ye : yesB ts (p, q) xs = false := by
      unfold yesB
      simp [c]
    have c' : ¬ (xs.length : Int) = ts.length := by omega
    rw [ye]
    simp [m__law_yes, b__law_yes, c, c']
/-! a paper with an element that is no ratio -/
def BE (u : Int) (d : D) : Prop := (∃ x : Int, x.natAbs < 1000000 ∧ d = qR (60 * u) x) ∨ Bad u d
def isRB (d : D) : Bool := match m_is_ratio [d] with
  | .ok (.v (.bl b)) => b
  | _ => false
theorem be_isR {u : Int} (hu : Un u) (us : u ≤ 1000) {d : D} (h : BE u d) : m_is_ratio [d] = .ok (.v (.bl (isRB d))) := by
  unfold isRB
  rcases h with ⟨x, hx, rfl⟩ | b
  · rw [c_rt (un60 hu us) x (by omega)]
  · rw [b.p]
theorem pB {u : Int} (hu : Un u) (us : u ≤ 1000) {ts : List Tm} (w : Int × Int) (ds : List D) (hd : ∀ d ∈ ds, BE u d) (hl : ds.length ≤ 1000) (hb : ∃ d ∈ ds, Bad u d) (nd : noD (.tup ds) = true) :
    m_are_measures [sD u ts w, .tup ds] = .ok (.v (.bl false)) := by
  have g0 : dIx (sD u ts w) (.int 0) = some (.v (.tup (ts.map (tR u)))) := by simp [sD]
  generalize sD u ts w = S at *
  have t := t_tup (.tup ds) ts.length ts.length nd
  generalize isTup ts.length ts.length (.tup ds) = b at t
  cases b with
  | false => simp [m_are_measures, b_are_measures, g0, t]
  | true =>
    simp [m_are_measures, b_are_measures, g0, t, x_eLc]
    refine lm_b ds (fun d => .bl (isRB d)) (h := id) (List.map_id ds).symm (by omega) (fun d hm => ?_) ?_
    · have e := be_isR hu us (hd d hm)
      simp [b_are_measures_c1, e]
    · have ba := bls_all isRB ds
      have af : (ds.map isRB).all id = false := by
        obtain ⟨d, hm, b⟩ := hb
        rw [List.all_map, List.all_eq_false]
        refine ⟨d, hm, ?_⟩
        have : isRB d = false := by unfold isRB; rw [b.p]
        simp [this]
      have ad : dAll [.lst (ds.map fun r => .bl (isRB r))] = some (.v (.bl false)) := by
        rw [x_allL, ba, ← af]
        rfl
      simp [-x_allL, ad]
theorem lB {u : Int} (hu : Un u) (us : u ≤ 1000) {ts : List Tm} (h : Ts ts) (w : Int × Int) (ds : List D) (hd : ∀ d ∈ ds, BE u d) (hb : ∃ d ∈ ds, Bad u d) :
    m__law_yes [.lst (ts.map tD), pI w, .int u, .tup ds] = .ok (.v (.bl false)) := by
  have hl := h.len
  by_cases c : ds.length = ts.length
  · have x1 := x_int1' (ts.length : Int) (by omega)
    have m6 : ∀ z : Int, dMul (.int 60) (.int z) = some (.v (.int (60 * z))) := fun z => x_mulL (by decide)
    simp [m__law_yes, b__law_yes, c, x1]
    refine rg_eq (J := fun i ρ => (∀ d ∈ ds.take i, ¬ Bad u d) ∧ ∃ v4 v5 v6 v7, ρ = [some (.v (.lst (ts.map tD))), some (.v (pI w)), some (.v (.int u)), some (.v (.tup ds)), some (.v (.int v4)), v5, v6, v7]) ⟨by simp, 0, none, none, none, rfl⟩ ?_ ?_
    · rintro i _ hi ⟨hw, v4, v5, v6, v7, rfl⟩
      have hix : i < ds.length := by omega
      have hz : ds[i]? = some ds[i] := List.getElem?_eq_getElem hix
      have gt : L2.atI (ts.map tD) (i : Int) = some (tD ts[i]) := atI_ofNat _ _ _ (by simp [hi])
      have gx : L2.atI ds (i : Int) = some ds[i] := atI_ofNat _ _ _ hz
      have g := h.ok ts[i] (List.getElem_mem hi)
      have bx := hd ds[i] (List.getElem_mem hix)
      have sn := take_snoc hz
      generalize ts[i] = t at *
      generalize ds[i] = d at *
      have e1 : dIx (tD t) (.int 1) = some (.v (.lst (t.rs.map pI))) := by simp [tD]
      have e0 : dIx (tD t) (.int 0) = some (.v (.int t.sg)) := by simp [tD]
      have m := s_meet g
      have ms : ∀ x : Int, dMul (.int t.sg) (.int x) = some (.v (.int (t.sg * x))) := fun x => x_mulL (by have := g.sg; omega)
      rcases bx with ⟨x, hx, rfl⟩ | b
      · have es := parts_ok hu us x
        by_cases k1 : x < 60 * mx t
        · simp [-x_mul, b__law_yes_f1, gt, gx, es, e1, m, m6, k1]
        · by_cases k2 : 60 * mn t < x
          · simp [-x_mul, b__law_yes_f1, gt, gx, es, e1, m, m6, k1, k2]
          · have nb : ¬ Bad u (qR (60 * u) x) := fun b => by
              have := b.p
              rw [c_rt (un60 hu us) x (by omega)] at this
              cases this
            have nw : ∀ d ∈ ds.take (i + 1), ¬ Bad u d := fun p hp => by
              rw [sn] at hp
              rcases List.mem_append.mp hp with q | q
              · exact hw p q
              · cases List.mem_singleton.mp q; exact nb
            simp [-x_mul, b__law_yes_f1, gt, gx, es, e1, e0, m, m6, k1, k2, ms]
            exact nw
      · have es := b.l
        simp [-x_mul, b__law_yes_f1, gt, gx, es, e1, m]
    · rintro _ ⟨hw, v4, v5, v6, v7, rfl⟩
      rw [← c, List.take_length] at hw
      obtain ⟨d, hm, b⟩ := hb
      exact (hw d hm b).elim
  · have c' : ¬ (ds.length : Int) = ts.length := by omega
    simp [m__law_yes, b__law_yes, c, c']
/-! no tuple at all -/
theorem pC {u : Int} {ts : List Tm} (w : Int × Int) (d : D) (nd : noD d = true) (hd : isTup ts.length ts.length d = false) : m_are_measures [sD u ts w, d] = .ok (.v (.bl false)) := by
  have g0 : dIx (sD u ts w) (.int 0) = some (.v (.tup (ts.map (tR u)))) := by simp [sD]
  generalize sD u ts w = S at *
  have t := t_tup d ts.length ts.length nd
  rw [hd] at t
  simp [m_are_measures, b_are_measures, g0, t]
end K16

namespace K16
open PL PySem Std
/-! the papers of a no -/
def nmB (t : Tm) (b c : Nat) : Bool := decide (b < t.rs.length ∧ c < t.rs.length ∧ b ≠ c ∧ (t.rs.getD b (0, 0)).2 < (t.rs.getD c (0, 0)).1)
theorem nm_any {ts : List Tm} {t : Tm} (ht : t ∈ ts) {b c : Nat} (h : nmB t b c = true) : anyA ts = true := by
  obtain ⟨h1, h2, _, h4⟩ := of_decide_eq_true h
  rw [List.getD_eq_getElem?_getD, List.getD_eq_getElem?_getD, List.getElem?_eq_getElem h1, List.getElem?_eq_getElem h2] at h4
  have k1 := mn_le (List.getElem_mem h1)
  have k2 := mx_le (List.getElem_mem h2)
  unfold anyA
  rw [List.any_eq_true]
  refine ⟨t, ht, decide_eq_true ?_⟩
  simp only [Option.getD_some] at h4
  omega
theorem p_wi (a lo hi : Int) : m_is_whole_in [.int a, .int lo, .int hi] = .ok (.v (.bl (decide (lo ≤ a ∧ a ≤ hi)))) := by
  have w := t_w (.int a) rfl
  by_cases c1 : lo ≤ a <;> by_cases c2 : a ≤ hi <;> simp [m_is_whole_in, b_is_whole_in, w, c1, c2]
def apD (a b c : Nat) : D := .tup [.str "apart", .int (a : Int), .int (b : Int), .int (c : Int)]
theorem p_names {u : Int} (hu : Un u) {ts : List Tm} (h : Ts ts) {a : Nat} {t : Tm} (ha : ts[a]? = some t) (b c : Nat) : m_names_apart [.tup (ts.map (tR u)), apD a b c] = .ok (.v (.bl (nmB t b c))) := by
  obtain ⟨hl, e⟩ := List.getElem?_eq_some_iff.mp ha
  have g := h.ok t (List.mem_of_getElem? ha)
  have wa := p_wi a 0 ((ts.length : Int) - 1)
  have wb := p_wi b 0 ((t.rs.length : Int) - 1)
  have wc := p_wi c 0 ((t.rs.length : Int) - 1)
  have ka : (0 : Int) ≤ a ∧ (a : Int) ≤ (ts.length : Int) - 1 := by omega
  rw [decide_eq_true ka] at wa
  have gt : L2.atI (ts.map (tR u)) (a : Int) = some (tR u t) := atI_ofNat _ _ _ (by simp [ha])
  have e1 : dIx (tR u t) (.int 1) = some (.v (.tup (t.rs.map (rd u)))) := by simp [tR]
  by_cases kb : b < t.rs.length
  · have kb' : (0 : Int) ≤ b ∧ (b : Int) ≤ (t.rs.length : Int) - 1 := by omega
    rw [decide_eq_true kb'] at wb
    have gb : L2.atI (t.rs.map (rd u)) (b : Int) = some (rd u t.rs[b]) := atI_ofNat _ _ _ (by simp [kb])
    by_cases kc : c < t.rs.length
    · have kc' : (0 : Int) ≤ c ∧ (c : Int) ≤ (t.rs.length : Int) - 1 := by omega
      rw [decide_eq_true kc'] at wc
      have gc : L2.atI (t.rs.map (rd u)) (c : Int) = some (rd u t.rs[c]) := atI_ofNat _ _ _ (by simp [kc])
      have b1 := gr_bd (g.rd _ (List.getElem_mem kb))
      have b2 := gr_bd (g.rd _ (List.getElem_mem kc))
      have cm := r_cmp hu (a := t.rs[b].2) (b := t.rs[c].1) (by omega) (by omega)
      have nb : nmB t b c = decide (b ≠ c ∧ t.rs[b].2 < t.rs[c].1) := by
        unfold nmB
        rw [List.getD_eq_getElem?_getD, List.getD_eq_getElem?_getD, List.getElem?_eq_getElem kb, List.getElem?_eq_getElem kc]
        simp [kb, kc]
      rw [nb]
      generalize t.rs[b] = r1 at *
      generalize t.rs[c] = r2 at *
      have k : ((if r1.2 < r2.1 then (-1 : Int) else if r2.1 < r1.2 then 1 else 0) < 0) = (r1.2 < r2.1) := propext (by split <;> (try split) <;> omega)
      generalize (if r1.2 < r2.1 then (-1 : Int) else if r2.1 < r1.2 then 1 else 0) = z at *
      have d1 : dIx (rd u r1) (.int 1) = some (.v (qR u r1.2)) := by simp [rd]
      have d2 : dIx (rd u r2) (.int 0) = some (.v (qR u r2.1)) := by simp [rd]
      by_cases q1 : b = c
      · have q1' : (b : Int) = c := by omega
        simp [m_names_apart, b_names_apart, apD, wa, gt, e1, wb, wc, q1]
      · have q1' : ¬ (b : Int) = c := by omega
        by_cases q2 : r1.2 < r2.1 <;> simp [m_names_apart, b_names_apart, apD, wa, gt, e1, wb, wc, q1, q1', gb, gc, d1, d2, cm, k, q2]
    · have kc' : ¬ ((0 : Int) ≤ c ∧ (c : Int) ≤ (t.rs.length : Int) - 1) := by omega
      rw [decide_eq_false kc'] at wc
      have nb : nmB t b c = false := by unfold nmB; simp [kc]
      rw [nb]
      simp [m_names_apart, b_names_apart, apD, wa, gt, e1, wb, wc]
  · have kb' : ¬ ((0 : Int) ≤ b ∧ (b : Int) ≤ (t.rs.length : Int) - 1) := by omega
    rw [decide_eq_false kb'] at wb
    have nb : nmB t b c = false := by unfold nmB; simp [kb]
    rw [nb]
    simp [m_names_apart, b_names_apart, apD, wa, gt, e1, wb]
theorem cut1 {α : Type} (a : α) (xs : List α) : PL.cutG (a :: xs) (some 1) none = xs := by rw [cutG_from (by decide)]; rfl
theorem cut2 {α : Type} (a b : α) (xs : List α) : PL.cutG (a :: b :: xs) (some 2) none = xs := by rw [cutG_from (by decide)]; rfl
theorem l_names {ts : List Tm} {a : Nat} {t : Tm} (ha : ts[a]? = some t) (b c : Nat) : m__law_names_apart [.lst (ts.map tD), apD a b c] = .ok (.v (.bl (nmB t b c))) := by
  obtain ⟨hl, e⟩ := List.getElem?_eq_some_iff.mp ha
  have wa := l_w (.int a) rfl
  have wb := l_w (.int b) rfl
  have wc := l_w (.int c) rfl
  have gt : L2.atI (ts.map tD) (a : Int) = some (tD t) := atI_ofNat _ _ _ (by simp [ha])
  have e1 : dIx (tD t) (.int 1) = some (.v (.lst (t.rs.map pI))) := by simp [tD]
  have ka1 : ¬ (a : Int) < 0 := by omega
  have ka2 : ¬ (ts.length : Int) ≤ a := by omega
  have kb1 : ¬ (b : Int) < 0 := by omega
  have kc1 : ¬ (c : Int) < 0 := by omega
  simp [m__law_names_apart, b__law_names_apart, apD, x_eLc, cut1]
  refine lc_b [(a : Int), b, c] (fun _ => false) D.int (h := D.int) rfl (by simp) (fun x hx => ?_) ?_
  · have w := l_w (.int x) rfl
    simp [w]
  simp [gt, e1, ka1, ka2, cut2]
  refine lp_eq [(b : Int), c] (h := D.int) (J := fun i ρ => (∀ x ∈ [(b : Int), c].take i, x < t.rs.length) ∧ ∃ v3, ρ = [some (.v (.lst (ts.map tD))), some (.v (.tup [.str "apart", .int (a : Int), .int (b : Int), .int (c : Int)])), some (.v (.lst (t.rs.map pI))), v3, none]) rfl ⟨by simp, none, rfl⟩ ?_ ?_
  · rintro i x _ hx ⟨hw, v3, rfl⟩
    have hm := List.mem_of_getElem? hx
    have sn := take_snoc hx
    have x0 : ¬ x < 0 := by
      simp at hm
      omega
    by_cases k : x < t.rs.length
    · have k' : ¬ (t.rs.length : Int) ≤ x := by omega
      have nw : ∀ y ∈ [(b : Int), c].take (i + 1), y < t.rs.length := fun y hy => by
        rw [sn] at hy
        rcases List.mem_append.mp hy with q | q
        · exact hw y q
        · cases List.mem_singleton.mp q; exact k
      simp [b__law_names_apart_f2, x0, k']
      simpa using nw
    · have k' : (t.rs.length : Int) ≤ x := by omega
      have nb : nmB t b c = false := by
        unfold nmB
        refine decide_eq_false fun z => ?_
        simp at hm
        omega
      rw [nb]
      simp [b__law_names_apart_f2, x0, k']
  · rintro _ ⟨hw, v3, rfl⟩
    have kb : b < t.rs.length := by have := hw (b : Int) (by simp); omega
    have kc : c < t.rs.length := by have := hw (c : Int) (by simp); omega
    have gb : L2.atI (t.rs.map pI) (b : Int) = some (pI t.rs[b]) := atI_ofNat _ _ _ (by simp [kb])
    have gc : L2.atI (t.rs.map pI) (c : Int) = some (pI t.rs[c]) := atI_ofNat _ _ _ (by simp [kc])
    have nb : nmB t b c = decide (b ≠ c ∧ t.rs[b].2 < t.rs[c].1) := by
      unfold nmB
      rw [List.getD_eq_getElem?_getD, List.getD_eq_getElem?_getD, List.getElem?_eq_getElem kb, List.getElem?_eq_getElem kc]
      simp [kb, kc]
    rw [nb]
    generalize t.rs[b] = r1 at *
    generalize t.rs[c] = r2 at *
    by_cases q1 : (b : Int) = c
    · have q1' : b = c := by omega
      simp [q1, q1']
    · have q1' : ¬ b = c := by omega
      by_cases q2 : r1.2 < r2.1 <;> simp [q1, q1', gb, gc, pI, q2]
end K16

namespace K16
open PL PySem Std
theorem n1 : ¬ Str.ofString "under" = Str.ofString "apart" := by decide
theorem n2 : ¬ Str.ofString "over" = Str.ofString "apart" := by decide
theorem n3 : ¬ Str.ofString "under" = Str.ofString "over" := by decide
def lo_ (ts : List Tm) : Int := (ts.map sl).sum
def hi_ (ts : List Tm) : Int := (ts.map sh).sum
def isNo (ts : List Tm) (w : Int × Int) : Bool := anyA ts || decide (w.2 < lo_ ts) || decide (hi_ ts < w.1)
def ouB (ts : List Tm) (w : Int × Int) (o : Bool) (v : Int) : Bool := !anyA ts && decide (0 < v) && decide (v = if o then lo_ ts - w.2 else w.1 - hi_ ts)
def wdD (o : Bool) : D := if o then .str "over" else .str "under"
theorem u_apart {u : Int} (hu : Un u) {ts : List Tm} (h : Ts ts) (w : Int × Int) {a : Nat} {t : Tm} (ha : ts[a]? = some t) (b c : Nat) : m_is_unsound [sD u ts w, apD a b c] = .ok (.v (.bl (nmB t b c))) := by
  have e := p_names (u := u) hu h ha b c
  have tt := t_tup (apD a b c) 2 4 rfl
  simp [apD] at tt
  have tt : m_is_tuple_of [apD a b c, .int 2, .int 4] = .ok (.v (.bl true)) := tt
  have e0 : dIx (apD a b c) (.int 0) = some (.v (.str "apart")) := by simp [apD]
  generalize apD a b c = P at *
  simp [m_is_unsound, b_is_unsound, sD, rd, tt, e0, e]
theorem l_apart {u : Int} {ts : List Tm} (w : Int × Int) {a : Nat} {t : Tm} (ha : ts[a]? = some t) (b c : Nat) : m__law_no [.lst (ts.map tD), pI w, .int u, apD a b c] = .ok (.v (.bl (nmB t b c))) := by
  have e := l_names ha b c
  simp only [apD] at e
  simp [m__law_no, b__law_no, apD, e]
theorem u_ou {u : Int} (hu : Un u) {ts : List Tm} (h : Ts ts) (w : Int × Int) (w1 : w.1.natAbs < 10000) (w2 : w.2.natAbs < 10000) (o : Bool) (v : Int) (hv : v.natAbs < 15000) : m_is_unsound [sD u ts w, .tup [wdD o, qR u v]] = .ok (.v (.bl (ouB ts w o v))) := by
  have b := s_bounds hu h
  have s := s_sums hu h
  have an := s_any hu h
  have hl := h.len
  have b1 := sum_bd (f := sl) fun t ht => sl_bd (h.ok t ht)
  have b2 := sum_bd (f := sh) fun t ht => sh_bd (h.ok t ht)
  have ir := c_rt hu v (by omega)
  have c0 : m_compare [qR u v, .ktp [.int 0, .int 1]] = .ok (.v (.int (if v < 0 then -1 else if 0 < v then 1 else 0))) := by
    have := s_cmp (R_rt hu (v := v) (by omega)) (R_rt hu (v := 0) (by omega)) (by omega) false true
    rw [R_cmp hu (by omega) (by omega)] at this
    rw [lD_z hu]
    exact this
  have m1 := r_minus hu (a := (ts.map sl).sum) (b := w.2) (by omega) (by omega)
  have m2 := r_minus hu (a := w.1) (b := (ts.map sh).sum) (by omega) (by omega)
  have c1 := r_cmp hu (a := v) (b := (ts.map sl).sum - w.2) (by omega) (by omega)
  have c2 := r_cmp hu (a := v) (b := w.1 - (ts.map sh).sum) (by omega) (by omega)
  unfold ouB lo_ hi_
  generalize (ts.map sl).sum = A at *
  generalize (ts.map sh).sum = B at *
  have k0 : ((if v < 0 then (-1 : Int) else if 0 < v then 1 else 0) ≤ 0) = ¬ (0 < v) := propext (by split <;> (try split) <;> omega)
  have k1 : ((if v < A - w.2 then (-1 : Int) else if A - w.2 < v then 1 else 0) = 0) = (v = A - w.2) := propext (by split <;> (try split) <;> omega)
  have k2 : ((if v < w.1 - B then (-1 : Int) else if w.1 - B < v then 1 else 0) = 0) = (v = w.1 - B) := propext (by split <;> (try split) <;> omega)
  generalize (if v < 0 then (-1 : Int) else if 0 < v then 1 else 0) = z0 at *
  generalize (if v < A - w.2 then (-1 : Int) else if A - w.2 < v then 1 else 0) = z1 at *
  generalize (if v < w.1 - B then (-1 : Int) else if w.1 - B < v then 1 else 0) = z2 at *
  have tt := t_tup (.tup [wdD o, qR u v]) 2 4 (by cases o <;> rfl)
  simp at tt
  have g1 : decide (v = A - w.2) = decide (z1 = 0) := decide_eq_decide.mpr (by rw [k1])
  have g2 : decide (v = w.1 - B) = decide (z2 = 0) := decide_eq_decide.mpr (by rw [k2])
  clear k1 k2
  have eg : decide (v = if o = true then A - w.2 else w.1 - B) = decide (if o = true then z1 = 0 else z2 = 0) := by
    cases o
    · simpa using g2
    · simpa using g1
  rw [eg]
  clear g1 g2 eg
  by_cases p0 : 0 < v
  · cases ea : anyA ts with
    | true =>
      rw [ea] at an
      cases o <;> simp [wdD] at tt <;> simp [m_is_unsound, b_is_unsound, sD, rd, wdD, n1, n2, n3, tt, ir, c_ZERO, c0, k0, p0, an]
    | false =>
      rw [ea] at an
      cases o
      · by_cases p2 : z2 = 0 <;> simp [wdD] at tt <;> simp [m_is_unsound, b_is_unsound, sD, rd, wdD, n1, n2, n3, tt, ir, c_ZERO, c0, k0, p0, an, b, s, m2, c2, p2]
      · by_cases p1 : z1 = 0 <;> simp [wdD] at tt <;> simp [m_is_unsound, b_is_unsound, sD, rd, wdD, n1, n2, n3, tt, ir, c_ZERO, c0, k0, p0, an, b, s, m1, c1, p1]
  · cases o <;> simp [wdD] at tt <;> simp [m_is_unsound, b_is_unsound, sD, rd, wdD, n1, n2, n3, tt, ir, c_ZERO, c0, k0, p0]
theorem l_ou {u : Int} (hu : Un u) (us : u ≤ 1000) {ts : List Tm} (h : Ts ts) (w : Int × Int) (o : Bool) (v : Int) (hv : v.natAbs < 15000) : m__law_no [.lst (ts.map tD), pI w, .int u, .tup [wdD o, qR u v]] = .ok (.v (.bl (ouB ts w o v))) := by
  have f := s_lapart h.ok h.len
  have en := s_ends h.ok
  have pa := parts_ok hu us (60 * v)
  rw [← qR_sc hu us (by omega)] at pa
  have m6 : ∀ z : Int, dMul (.int 60) (.int z) = some (.v (.int (60 * z))) := fun z => x_mulL (by decide)
  have ap := any_apF ts
  obtain ⟨p, q⟩ := w
  unfold ouB lo_ hi_
  generalize (ts.map sl).sum = A at *
  generalize (ts.map sh).sum = B at *
  cases e : apF 0 ts with
  | some d =>
    have dn := apF_non e
    rw [e] at f ap
    simp at f ap
    cases o <;> simp [m__law_no, b__law_no, wdD, n1, n2, n3, f, dn, ap]
  | none =>
    rw [e] at f ap
    simp at f ap
    have d0 : decide (0 < v) = decide (0 < 60 * v) := decide_eq_decide.mpr (by omega)
    have eg : decide (v = if o = true then A - q else p - B) = decide (60 * v = if o = true then 60 * (A - q) else 60 * (p - B)) := decide_eq_decide.mpr (by cases o <;> simp <;> omega)
    rw [d0, eg]
    clear d0 eg
    generalize 60 * v = x at *
    have m7 := m6 (A - q)
    have m8 := m6 (p - B)
    clear m6
    generalize 60 * (A - q) = y1 at *
    generalize 60 * (p - B) = y2 at *
    by_cases p0 : 0 < x
    · have p0' : ¬ x ≤ 0 := by omega
      cases o
      · by_cases p2 : x = y2
        · subst p2
          simp [-x_mul, m__law_no, b__law_no, wdD, n1, n2, n3, f, ap, pI, pa, en, m8, p0, p0']
        · simp [-x_mul, m__law_no, b__law_no, wdD, n1, n2, n3, f, ap, pI, pa, en, m8, p0, p0', p2]
      · by_cases p2 : x = y1
        · subst p2
          simp [-x_mul, m__law_no, b__law_no, wdD, n1, n2, n3, f, ap, pI, pa, en, m7, p0, p0']
        · simp [-x_mul, m__law_no, b__law_no, wdD, n1, n2, n3, f, ap, pI, pa, en, m7, p0, p0', p2]
    · have p0' : x ≤ 0 := by omega
      cases o <;> simp [-x_mul, m__law_no, b__law_no, wdD, n1, n2, n3, f, ap, pI, pa, en, p0, p0']
theorem ou_no {ts : List Tm} {w : Int × Int} {o : Bool} {v : Int} (h : ouB ts w o v = true) : isNo ts w = true := by
  unfold ouB at h
  unfold isNo
  simp only [Bool.and_eq_true, decide_eq_true_eq] at h
  obtain ⟨⟨_, h1⟩, h2⟩ := h
  cases o
  · simp at h2
    simp
    right
    omega
  · simp at h2
    simp
    left; right
    omega
end K16

namespace K16
open PL PySem Std
/-! judged alike -/
def wS (ts : List Tm) (w : Int × Int) : Str := if isNo ts w then Str.ofString "no" else Str.ofString "yes"
def Jd (u : Int) (ts : List Tm) (w : Int × Int) (a : D) : Prop := ∃ b, m_upholds_strike [sD u ts w, a] = .ok (.v (.bl b)) ∧ m__law_right [.lst (ts.map tD), pI w, .int u, a] = .ok (.v (.bl b)) ∧ (b = true → dIx a (.int 0) = some (.v (.str (wS ts w))))
theorem n4 : ¬ Str.ofString "no" = Str.ofString "yes" := by decide
structure Sub (u : Int) (ts : List Tm) (w : Int × Int) : Prop where
  hu : Un u
  us : u ≤ 1000
  h : Ts ts
  v1 : w.1.natAbs < 5000
  v2 : w.2.natAbs < 5000
  hw : w.1 ≤ w.2
theorem Sub.w1 {u : Int} {ts : List Tm} {w : Int × Int} (s : Sub u ts w) : w.1.natAbs < 10000 := by have := s.v1; omega
theorem Sub.w2 {u : Int} {ts : List Tm} {w : Int × Int} (s : Sub u ts w) : w.2.natAbs < 10000 := by have := s.v2; omega
section
variable {u : Int} {ts : List Tm} {w : Int × Int} (s : Sub u ts w)
include s
theorem sck : m_check_strike [sD u ts w] = .ok (.v .non) := s_checkS s.hu s.us s.h w (by have := s.w1; omega) (by have := s.w2; omega) s.hw
theorem j_yes {d : D} {b : Bool} (hp : m_are_measures [sD u ts w, d] = .ok (.v (.bl b))) (hl : m__law_yes [.lst (ts.map tD), pI w, .int u, d] = .ok (.v (.bl b))) (hb : b = true → isNo ts w = false) : Jd u ts w (.tup [.str "yes", d]) := by
  have c := sck s
  have tt := t_tup (.tup [.str "yes", d]) 2 2 rfl
  simp at tt
  refine ⟨b, ?_, ?_, fun e => ?_⟩
  · simp [m_upholds_strike, b_upholds_strike, c, m_is_answer, b_is_answer, tt, hp]
  · simp [m__law_right, b__law_right, hl]
  · have := hb e
    simp [wS, this]
theorem j_no {d : D} {b : Bool} (hp : m_is_unsound [sD u ts w, d] = .ok (.v (.bl b))) (hl : m__law_no [.lst (ts.map tD), pI w, .int u, d] = .ok (.v (.bl b))) (hb : b = true → isNo ts w = true) : Jd u ts w (.tup [.str "no", d]) := by
  have c := sck s
  have tt := t_tup (.tup [.str "no", d]) 2 2 rfl
  simp at tt
  refine ⟨b, ?_, ?_, fun e => ?_⟩
  · simp [m_upholds_strike, b_upholds_strike, c, m_is_answer, b_is_answer, tt, hp, n4]
  · simp [m__law_right, b__law_right, hl, n4]
  · have := hb e
    simp [wS, this]
/-- neither list nor … : no tuple -/
theorem j_lst (ds : List D) : Jd u ts w (.lst ds) := by
  have c := sck s
  have tt := t_tup (.lst ds) 2 2 rfl
  simp at tt
  refine ⟨false, ?_, ?_, fun e => by cases e⟩
  · simp [m_upholds_strike, b_upholds_strike, c, m_is_answer, b_is_answer, tt]
  · simp [m__law_right, b__law_right]
theorem j_non : Jd u ts w .non := by
  have c := sck s
  have tt := t_tup .non 2 2 rfl
  simp at tt
  refine ⟨false, ?_, ?_, fun e => by cases e⟩
  · simp [m_upholds_strike, b_upholds_strike, c, m_is_answer, b_is_answer, tt]
  · simp [m__law_right, b__law_right]
theorem j_str (z : Str) : Jd u ts w (.str z) := by
  have c := sck s
  have tt := t_tup (.str z) 2 2 rfl
  simp at tt
  refine ⟨false, ?_, ?_, fun e => by cases e⟩
  · simp [m_upholds_strike, b_upholds_strike, c, m_is_answer, b_is_answer, tt]
  · simp [m__law_right, b__law_right]
theorem j_int (z : Int) : Jd u ts w (.int z) := by
  have c := sck s
  have tt := t_tup (.int z) 2 2 rfl
  simp at tt
  refine ⟨false, ?_, ?_, fun e => by cases e⟩
  · simp [m_upholds_strike, b_upholds_strike, c, m_is_answer, b_is_answer, tt]
  · simp [m__law_right, b__law_right]
theorem j_one (d : D) : Jd u ts w (.tup [d]) := by
  have c := sck s
  have tt := t_tup (.tup [d]) 2 2 rfl
  simp at tt
  refine ⟨false, ?_, ?_, fun e => by cases e⟩
  · simp [m_upholds_strike, b_upholds_strike, c, m_is_answer, b_is_answer, tt]
  · simp [m__law_right, b__law_right]
theorem j_three (d e f : D) : Jd u ts w (.tup [d, e, f]) := by
  have c := sck s
  have tt := t_tup (.tup [d, e, f]) 2 2 rfl
  simp at tt
  refine ⟨false, ?_, ?_, fun e => by cases e⟩
  · simp [m_upholds_strike, b_upholds_strike, c, m_is_answer, b_is_answer, tt]
  · simp [m__law_right, b__law_right]
theorem j_true (d : D) : Jd u ts w (.tup [.bl true, d]) := by
  have c := sck s
  have tt := t_tup (.tup [.bl true, d]) 2 2 rfl
  simp at tt
  refine ⟨false, ?_, ?_, fun e => by cases e⟩
  · simp [m_upholds_strike, b_upholds_strike, c, m_is_answer, b_is_answer, tt]
  · simp [m__law_right, b__law_right]
/-! papers under a yes -/
theorem y_lst (ds : List D) : Jd u ts w (.tup [.str "yes", .lst ds]) := j_yes s (pC w _ rfl (by simp)) (by simp [m__law_yes, b__law_yes]) (fun e => by cases e)
theorem y_non : Jd u ts w (.tup [.str "yes", .non]) := j_yes s (pC w _ rfl (by simp)) (by simp [m__law_yes, b__law_yes]) (fun e => by cases e)
theorem y_int (z : Int) : Jd u ts w (.tup [.str "yes", .int z]) := j_yes s (pC w _ rfl (by simp)) (by simp [m__law_yes, b__law_yes]) (fun e => by cases e)
theorem y_str (z : Str) : Jd u ts w (.tup [.str "yes", .str z]) := j_yes s (pC w _ rfl (by simp)) (by simp [m__law_yes, b__law_yes]) (fun e => by cases e)
theorem y_len (ds : List D) (hl : ds.length ≠ ts.length) : Jd u ts w (.tup [.str "yes", .tup ds]) := by
  have c : ¬ (ds.length : Int) = ts.length := by omega
  exact j_yes s (pC w _ rfl (by simp; omega)) (by simp [m__law_yes, b__law_yes, c]) (fun e => by cases e)
omit s in
theorem zsum : ∀ (ts : List Tm) (xs : List Int), (∀ t ∈ ts, GT t) → xs.length = ts.length → (∀ p ∈ ts.zip xs, okE p.1 p.2 = true) → 60 * lo_ ts ≤ (zs ts xs).sum ∧ (zs ts xs).sum ≤ 60 * hi_ ts ∧ anyA ts = false
  | [], [], _, _, _ => by simp [lo_, hi_, zs, anyA]
  | t :: ts, x :: xs, hg, hl, h => by
    have g := hg t (List.mem_cons_self ..)
    have ih := zsum ts xs (fun y hy => hg y (List.mem_cons_of_mem _ hy)) (by simpa using hl) fun p hp => h p (List.mem_cons_of_mem _ hp)
    have o := (okE_iff g x).mp (h (t, x) (List.mem_cons_self ..))
    have e1 : lo_ (t :: ts) = sl t + lo_ ts := by simp [lo_]
    have e2 : hi_ (t :: ts) = sh t + hi_ ts := by simp [hi_]
    have e3 : (zs (t :: ts) (x :: xs)).sum = t.sg * x + (zs ts xs).sum := by simp [zs]
    have e4 : anyA (t :: ts) = (decide (mn t < mx t) || anyA ts) := by simp [anyA]
    have e5 : decide (mn t < mx t) = false := decide_eq_false (by omega)
    rw [e1, e2, e3, e4, e5, ih.2.2]
    have k : 60 * sl t ≤ t.sg * x ∧ t.sg * x ≤ 60 * sh t := by
      unfold sl sh
      rcases g.sg with e | e
      · rw [if_pos e, if_pos e, e]; omega
      · rw [if_neg (by omega), if_neg (by omega), e]; omega
    refine ⟨by omega, by omega, rfl⟩
omit s in
theorem yes_sound (h : Ts ts) {xs : List Int} (hy : yesB ts w xs = true) : isNo ts w = false := by
  unfold yesB at hy
  simp only [Bool.and_eq_true, decide_eq_true_eq, List.all_eq_true] at hy
  obtain ⟨⟨h1, h2⟩, h3⟩ := hy
  obtain ⟨k1, k2, k3⟩ := zsum ts xs h.ok h1 h2
  unfold isNo
  rw [k3, decide_eq_false (show ¬ w.2 < lo_ ts by omega), decide_eq_false (show ¬ hi_ ts < w.1 by omega)]
  rfl
theorem y_num (xs : List Int) (hx : ∀ x ∈ xs, x.natAbs ≤ 30000) (hl : xs.length ≤ 1000) : Jd u ts w (.tup [.str "yes", .tup (xs.map (qR (60 * u)))]) :=
  j_yes s (pA s.hu s.us s.h w s.w1 s.w2 xs hx hl) (lA s.hu s.us s.h w xs hx) (yes_sound s.h)
theorem y_bad (ds : List D) (hd : ∀ d ∈ ds, BE u d) (hl : ds.length ≤ 1000) (hb : ∃ d ∈ ds, Bad u d) : Jd u ts w (.tup [.str "yes", .tup ds]) :=
  j_yes s (pB s.hu s.us w ds hd hl hb rfl) (lB s.hu s.us s.h w ds hd hb) (fun e => by cases e)
/-! papers under a no -/
theorem o_nt {d : D} (nd : noD d = true) (ht : isTup 2 4 d = false) : m_is_unsound [sD u ts w, d] = .ok (.v (.bl false)) := by
  have tt := t_tup d 2 4 nd
  rw [ht] at tt
  simp [m_is_unsound, b_is_unsound, tt]
theorem o_lst (ds : List D) : Jd u ts w (.tup [.str "no", .lst ds]) := j_no s (o_nt s rfl (by simp)) (by simp [m__law_no, b__law_no]) (fun e => by cases e)
theorem o_non : Jd u ts w (.tup [.str "no", .non]) := j_no s (o_nt s rfl (by simp)) (by simp [m__law_no, b__law_no]) (fun e => by cases e)
theorem o_nil : Jd u ts w (.tup [.str "no", .tup []]) := j_no s (o_nt s rfl (by simp)) (by simp [m__law_no, b__law_no]) (fun e => by cases e)
theorem o_one (d : D) : Jd u ts w (.tup [.str "no", .tup [d]]) := j_no s (o_nt s rfl (by simp)) (by simp [m__law_no, b__law_no]) (fun e => by cases e)
theorem o_tup (e d : D) (ds es : List D) (he : e = .tup es) : Jd u ts w (.tup [.str "no", .tup (e :: d :: ds)]) := by
  subst he
  have k : ¬ ((ds.length : Int) + 1 + 1 < 2) := by omega
  refine j_no s (b := false) ?_ ?_ (fun e => by cases e)
  · have tt := t_tup (.tup (.tup es :: d :: ds)) 2 4 rfl
    generalize isTup 2 4 (.tup (.tup es :: d :: ds)) = b at tt
    cases b with
    | false => simp [m_is_unsound, b_is_unsound, tt]
    | true => simp [m_is_unsound, b_is_unsound, tt]
  · simp [m__law_no, b__law_no, k]
theorem o_over1 : Jd u ts w (.tup [.str "no", .tup [.str "over", .int 1]]) := by
  have f := s_lapart s.h.ok s.h.len
  have en := s_ends s.h.ok
  have ir := (bad_int u 1).p
  have il := (bad_int u 1).l
  refine j_no s (b := false) ?_ ?_ (fun e => by cases e)
  · have tt := t_tup (.tup [.str "over", .int 1]) 2 4 rfl
    simp at tt
    simp [m_is_unsound, b_is_unsound, tt, sD, rd, n2, ir]
  · cases e : apF 0 ts with
    | some d =>
      have dn := apF_non e
      rw [e] at f
      simp at f
      simp [m__law_no, b__law_no, n2, f, dn]
    | none =>
      rw [e] at f
      simp at f
      simp [m__law_no, b__law_no, n2, f, il, en]
theorem o_aptrue : Jd u ts w (.tup [.str "no", .tup [.str "apart", .int 0, .int 0, .bl true]]) := by
  have hne := s.h.ne
  have hl := s.h.len
  have g := s.h.ok ts[0] (List.getElem_mem hne)
  have gt : L2.atI (ts.map (tR u)) 0 = some (tR u ts[0]) := by
    show L2.atI _ ((0 : Nat) : Int) = _
    exact atI_ofNat _ _ _ (by rw [List.getElem?_map, List.getElem?_eq_getElem hne]; rfl)
  have rl := g.ne
  have e1 : dIx (tR u ts[0]) (.int 1) = some (.v (.tup (ts[0].rs.map (rd u)))) := by simp [tR]
  generalize ts[0] = t at *
  refine j_no s (b := false) ?_ ?_ (fun e => by cases e)
  · have tt := t_tup (.tup [.str "apart", .int 0, .int 0, .bl true]) 2 4 rfl
    simp at tt
    have w0 := p_wi 0 0 ((ts.length : Int) - 1)
    have w1 := p_wi 0 0 ((t.rs.length : Int) - 1)
    have k0 : (0 : Int) ≤ 0 ∧ (0 : Int) ≤ (ts.length : Int) - 1 := by omega
    have k1 : (0 : Int) ≤ 0 ∧ (0 : Int) ≤ (t.rs.length : Int) - 1 := by omega
    rw [decide_eq_true k0] at w0
    rw [decide_eq_true k1] at w1
    have wt := t_w (.bl true) rfl
    have w2 : m_is_whole_in [.bl true, .int 0, .int ((t.rs.length : Int) - 1)] = .ok (.v (.bl false)) := by
      simp [m_is_whole_in, b_is_whole_in, wt]
    simp [m_is_unsound, b_is_unsound, tt, sD, rd, m_names_apart, b_names_apart, w0, gt, e1, w1, w2]
  · have wt : m__law_is_whole [.bl true] = _ := l_w (.bl true) rfl
    have w0 := l_w (.int 0) rfl
    have nm : m__law_names_apart [.lst (ts.map tD), .tup [.str "apart", .int 0, .int 0, .bl true]] = .ok (.v (.bl false)) := by
      simp [m__law_names_apart, b__law_names_apart, x_eLc, cut1]
      refine lc_b [D.int 0, .int 0, .bl true] (fun d => !isW d) id (h := id) rfl (by simp) (fun x hx => ?_) ?_
      · simp at hx
        rcases hx with rfl | rfl
        · simp [w0, b__law_names_apart_c1]
        · simp [wt, b__law_names_apart_c1]
      · simp
    simp [m__law_no, b__law_no, nm]
end
end K16

namespace K16
open PL PySem Std
theorem ixI_at {v : Int} : ∀ {xs : List Int} {j : Nat}, ixI v xs = some j → xs[j]? = some v
  | x :: xs, j, h => by
    unfold ixI at h
    by_cases c : x = v
    · rw [if_pos c] at h
      cases h
      simp [c]
    · rw [if_neg c] at h
      cases e : ixI v xs with
      | none => rw [e] at h; cases h
      | some k =>
        rw [e] at h
        cases h
        simpa using ixI_at e
theorem apF_ex : ∀ {ts : List Tm} {k : Nat} {d : D}, apF k ts = some d → ∃ i t, ts[i]? = some t ∧ mn t < mx t ∧ d = pap (k + i) t
  | t :: ts, k, d, h => by
    unfold apF at h
    by_cases c : mn t < mx t
    · rw [if_pos c] at h
      cases h
      exact ⟨0, t, rfl, c, rfl⟩
    · rw [if_neg c] at h
      obtain ⟨i, x, h1, h2, h3⟩ := apF_ex h
      exact ⟨i + 1, x, by simpa using h1, h2, by rw [h3, show k + 1 + i = k + (i + 1) by omega]⟩
theorem nm_pap {t : Tm} (g : GT t) (c : mn t < mx t) : nmB t (jH t) (jL t) = true := by
  obtain ⟨j, ej⟩ := ixI_ex (mn_mem g)
  obtain ⟨k, ek⟩ := ixI_ex (mx_mem g)
  have hj : jH t = j := by unfold jH; rw [ej]; rfl
  have hk : jL t = k := by unfold jL; rw [ek]; rfl
  rw [hj, hk]
  have aj := ixI_at ej
  have ak := ixI_at ek
  rw [List.getElem?_map] at aj ak
  have lj : j < t.rs.length := by
    rcases Nat.lt_or_ge j t.rs.length with h | h
    · exact h
    · rw [List.getElem?_eq_none h] at aj; cases aj
  have lk : k < t.rs.length := by
    rcases Nat.lt_or_ge k t.rs.length with h | h
    · exact h
    · rw [List.getElem?_eq_none h] at ak; cases ak
  rw [List.getElem?_eq_getElem lj] at aj
  rw [List.getElem?_eq_getElem lk] at ak
  simp at aj ak
  unfold nmB
  rw [List.getD_eq_getElem?_getD, List.getD_eq_getElem?_getD, List.getElem?_eq_getElem lj, List.getElem?_eq_getElem lk]
  simp only [Option.getD_some]
  refine decide_eq_true ⟨lj, lk, fun e => ?_, by omega⟩
  subst e
  have := g.rd _ (List.getElem_mem lj)
  unfold GR at this
  omega
/-- what the due yes gives -/
def yx (L : Int) (ts : List Tm) : List Int := (ts.zip (rv L ts)).map fun p => 60 * (p.1.sg * p.2)
theorem yx_ok : ∀ (ts : List Tm) (L : Int), 0 ≤ L → (∀ t ∈ ts, GT t) → NoA ts → (∀ p ∈ ts.zip (yx L ts), okE p.1 p.2 = true) ∧ (zs ts (yx L ts)).sum = 60 * (lo_ ts + min L (hi_ ts - lo_ ts)) ∧ lo_ ts ≤ hi_ ts
  | [], L, hL, _, _ => by simp [yx, zs, lo_, hi_]; omega
  | t :: ts, L, hL, hg, hn => by
    have g := hg t (List.mem_cons_self ..)
    have n := hn t (List.mem_cons_self ..)
    have wi := wide_is g
    obtain ⟨i1, i2, i3⟩ := yx_ok ts (L - min (sh t - sl t) L) (by omega) (fun y hy => hg y (List.mem_cons_of_mem _ hy)) (fun y hy => hn y (List.mem_cons_of_mem _ hy))
    have ey : yx L (t :: ts) = 60 * (t.sg * (sl t + min (sh t - sl t) L)) :: yx (L - min (sh t - sl t) L) ts := by simp [yx, rv]
    have e1 : lo_ (t :: ts) = sl t + lo_ ts := by simp [lo_]
    have e2 : hi_ (t :: ts) = sh t + hi_ ts := by simp [hi_]
    have m0 : 0 ≤ min (sh t - sl t) L ∧ min (sh t - sl t) L ≤ sh t - sl t := by omega
    rw [ey]
    have e3 : (zs (t :: ts) (60 * (t.sg * (sl t + min (sh t - sl t) L)) :: yx (L - min (sh t - sl t) L) ts)).sum = t.sg * (60 * (t.sg * (sl t + min (sh t - sl t) L))) + (zs ts (yx (L - min (sh t - sl t) L) ts)).sum := by simp [zs]
    rw [e3, e1, e2, i2]
    have e4 : t.sg * (60 * (t.sg * (sl t + min (sh t - sl t) L))) = 60 * (sl t + min (sh t - sl t) L) := by
      rcases g.sg with e | e <;> rw [e] <;> omega
    have e5 : 60 * mx t ≤ 60 * (t.sg * (sl t + min (sh t - sl t) L)) ∧ 60 * (t.sg * (sl t + min (sh t - sl t) L)) ≤ 60 * mn t := by
      rcases g.sg with e | e
      · have a1 : sl t = mx t := by unfold sl; rw [if_pos e]
        have a2 : sh t = mn t := by unfold sh; rw [if_pos e]
        rw [e, a1, a2] at *
        omega
      · have a1 : sl t = -mn t := by unfold sl; rw [if_neg (by omega)]
        have a2 : sh t = -mx t := by unfold sh; rw [if_neg (by omega)]
        rw [e, a1, a2] at *
        omega
    refine ⟨fun p hp => ?_, by rw [e4]; omega, by omega⟩
    rw [List.zip_cons_cons] at hp
    rcases List.mem_cons.mp hp with rfl | hp
    · exact (okE_iff g _).mpr e5
    · exact i1 p hp
section
variable {u : Int} {ts : List Tm} {w : Int × Int} (s : Sub u ts w)
include s
/-- the answer that is due -/
theorem due_ok : ∃ p, anD u ts w = .tup [.str (wS ts w), p] ∧ m_upholds_strike [sD u ts w, anD u ts w] = .ok (.v (.bl true)) ∧ Jd u ts w (anD u ts w) ∧ Jd u ts w (.tup [.str "no", p]) ∧ Jd u ts w (.tup [.str "yes", p]) := by
  have hl := s.h.len
  have hne := s.h.ne
  have b1 := sum_bd (f := sl) fun t ht => sl_bd (s.h.ok t ht)
  have b2 := sum_bd (f := sh) fun t ht => sh_bd (s.h.ok t ht)
  have hw1 := s.w1
  have hw2 := s.w2
  have hw := s.hw
  have up : ∀ {p : D}, m_is_unsound [sD u ts w, p] = .ok (.v (.bl true)) → m_upholds_strike [sD u ts w, .tup [.str "no", p]] = .ok (.v (.bl true)) := fun {p} hp => by
    have c := sck s
    have tt := t_tup (.tup [.str "no", p]) 2 2 rfl
    simp at tt
    simp [m_upholds_strike, b_upholds_strike, c, m_is_answer, b_is_answer, tt, hp, n4]
  have bi : ∀ i : Int, BE u (.int i) := fun i => .inr (bad_int u i)
  have bs : ∀ z : Str, BE u (.str z) := fun i => .inr (bad_str u i)
  unfold anD
  cases e : apF 0 ts with
  | some d =>
    obtain ⟨i, t, ht, c, hd⟩ := apF_ex e
    rw [Nat.zero_add] at hd
    have g := s.h.ok t (List.mem_of_getElem? ht)
    have hn := nm_pap g c
    have hd : d = apD i (jH t) (jL t) := hd
    have an : anyA ts = true := nm_any (List.mem_of_getElem? ht) hn
    have ino : isNo ts w = true := by unfold isNo; rw [an]; rfl
    have hp := u_apart s.hu s.h w ht (jH t) (jL t)
    have hlw := l_apart (u := u) w ht (jH t) (jL t)
    rw [hn] at hp hlw
    rw [← hd] at hp hlw
    have j := j_no s hp hlw (fun _ => ino)
    refine ⟨d, by simp [wS, ino], up hp, j, j, ?_⟩
    rw [hd]
    exact y_bad s _ (fun x hx => by
      simp only [List.mem_cons, List.not_mem_nil, or_false] at hx
      rcases hx with rfl | rfl | rfl | rfl
      · exact bs _
      · exact bi _
      · exact bi _
      · exact bi _) (by simp) ⟨.str "apart", by simp, bad_str u _⟩
  | none =>
    have an : anyA ts = false := (any_apF ts).mp e
    have na := noA_of e
    dsimp only
    have ou : ∀ (o : Bool) (v : Int), v = (if o then lo_ ts - w.2 else w.1 - hi_ ts) → 0 < v → v.natAbs < 15000 → isNo ts w = true → ∃ p, D.tup [.str "no", .tup [wdD o, qR u v]] = .tup [.str (wS ts w), p] ∧ m_upholds_strike [sD u ts w, .tup [.str "no", .tup [wdD o, qR u v]]] = .ok (.v (.bl true)) ∧ Jd u ts w (.tup [.str "no", .tup [wdD o, qR u v]]) ∧ Jd u ts w (.tup [.str "no", p]) ∧ Jd u ts w (.tup [.str "yes", p]) := fun o v hv v0 vb ino => by
      have t : ouB ts w o v = true := by
        unfold ouB
        rw [an, decide_eq_true v0, decide_eq_true hv]
        rfl
      have hp := u_ou s.hu s.h w s.w1 s.w2 o v vb
      have hlw := l_ou s.hu s.us s.h w o v vb
      rw [t] at hp hlw
      have j := j_no s hp hlw (fun _ => ino)
      refine ⟨.tup [wdD o, qR u v], by simp [wS, ino], up hp, j, j, ?_⟩
      refine y_bad s _ (fun x hx => ?_) (by simp) ⟨wdD o, by simp, by cases o <;> exact bad_str u _⟩
      simp only [List.mem_cons, List.not_mem_nil, or_false] at hx
      rcases hx with rfl | rfl
      · cases o <;> exact bs _
      · rw [qR_sc s.hu s.us (by omega)]
        exact .inl ⟨60 * v, by omega, rfl⟩
    by_cases k1 : w.2 < lo_ ts
    · simp only [if_pos (show w.2 < (ts.map sl).sum from k1)]
      have ino : isNo ts w = true := by unfold isNo; rw [decide_eq_true k1]; simp
      exact ou true (lo_ ts - w.2) rfl (by omega) (by unfold lo_; omega) ino
    · simp only [if_neg (show ¬ w.2 < (ts.map sl).sum from k1)]
      by_cases k2 : hi_ ts < w.1
      · simp only [if_pos (show (ts.map sh).sum < w.1 from k2)]
        have ino : isNo ts w = true := by unfold isNo; rw [decide_eq_true k2]; simp
        exact ou false (w.1 - hi_ ts) rfl (by omega) (by unfold hi_; omega) ino
      · simp only [if_neg (show ¬ (ts.map sh).sum < w.1 from k2)]
        have ino : isNo ts w = false := by unfold isNo; rw [an, decide_eq_false k1, decide_eq_false k2]; rfl
        have L0 : 0 ≤ max (w.1 - lo_ ts) 0 := by omega
        obtain ⟨i1, i2, i3⟩ := yx_ok ts _ L0 s.h.ok na
        have vb := rv_bd s.h.ok na _ L0
        have vl := rv_len (max (w.1 - lo_ ts) 0) ts
        have yl : (yx (max (w.1 - lo_ ts) 0) ts).length = ts.length := by simp [yx, vl]
        have yb : ∀ x ∈ yx (max (w.1 - lo_ ts) 0) ts, x.natAbs ≤ 30000 ∧ True := fun x hx => by
          obtain ⟨⟨t, v⟩, hp, rfl⟩ := List.mem_map.mp hx
          have h1 := List.of_mem_zip hp
          have b := vb v h1.2
          have g := (s.h.ok t h1.1)
          have ok := i1
          refine ⟨?_, trivial⟩
          show (60 * (t.sg * v)).natAbs ≤ 30000
          have hb : v.natAbs ≤ 500 := by
            have key : ∀ (l : List Tm) (L : Int), 0 ≤ L → (∀ t ∈ l, GT t) → NoA l → ∀ v ∈ rv L l, v.natAbs ≤ 100 := by
              intro l
              induction l with
              | nil => intro L _ _ _ v hv; cases hv
              | cons t l ih =>
                intro L hL h hn v hv
                have g := h t (List.mem_cons_self ..)
                have n := hn t (List.mem_cons_self ..)
                have wi := wide_is g
                have c1 := sl_bd g
                have c2 := sh_bd g
                rw [rv] at hv
                rcases List.mem_cons.mp hv with rfl | hv
                · omega
                · exact ih _ (by omega) (fun x hx => h x (List.mem_cons_of_mem _ hx)) (fun x hx => hn x (List.mem_cons_of_mem _ hx)) v hv
            have := key ts _ L0 s.h.ok na v h1.2
            omega
          rcases g.sg with e | e <;> rw [e] <;> omega
        have yd : ((ts.zip (rv (max (w.1 - lo_ ts) 0) ts)).map fun p => qR u (p.1.sg * p.2)) = (yx (max (w.1 - lo_ ts) 0) ts).map (qR (60 * u)) := by
          unfold yx
          rw [List.map_map]
          refine List.map_congr_left fun p hp => ?_
          obtain ⟨t, v⟩ := p
          have h1 := List.of_mem_zip hp
          have b := vb v h1.2
          exact qR_sc s.hu s.us (by rcases (s.h.ok t h1.1).sg with e | e <;> simp only [e] <;> omega)
        have ye : yesB ts w (yx (max (w.1 - lo_ ts) 0) ts) = true := by
          unfold yesB
          rw [decide_eq_true yl, List.all_eq_true.mpr i1, i2]
          exact decide_eq_true (by omega)
        have yD : yesD u ts w = .tup [.str "yes", .tup ((yx (max (w.1 - lo_ ts) 0) ts).map (qR (60 * u)))] := by
          rw [← yd]
          rfl
        rw [yD]
        have hp := pA s.hu s.us s.h w s.w1 s.w2 _ (fun x hx => (yb x hx).1) (by omega)
        rw [ye] at hp
        have j := y_num s _ (fun x hx => (yb x hx).1) (by omega)
        generalize yx (max (w.1 - lo_ ts) 0) ts = X at *
        refine ⟨_, by simp only [wS, ino]; rfl, ?_, j, ?_, j⟩
        · have c := sck s
          have tt := t_tup (.tup [.str "yes", .tup (X.map (qR (60 * u)))]) 2 2 rfl
          simp at tt
          simp [m_upholds_strike, b_upholds_strike, c, m_is_answer, b_is_answer, tt, hp]
        · match X, yl with
          | [], yl => simp at yl; omega
          | [x], _ => exact o_one s _
          | x :: y :: X, _ => exact o_tup s _ _ _ _ rfl
end
end K16

namespace K16
open PL PySem Std
theorem lw_len (held a : Int) : ∀ (ts : List Tm) (L : Int) (i : Nat), (lw held a L i ts).length = ts.length
  | [], L, i => rfl
  | t :: ts, L, i => by
    unfold lw
    split <;> simp [lw_len held a ts]
theorem lw_bd : ∀ (ts : List Tm) (L : Int) (i : Nat), (∀ t ∈ ts, GT t) → ∀ v ∈ lw (-1) 0 L i ts, v.natAbs ≤ 300
  | [], L, i, _, v, hv => by cases hv
  | t :: ts, L, i, h, v, hv => by
    have g := h t (List.mem_cons_self ..)
    have b1 := mx_bd g
    have b2 := mn_bd g
    have b3 : (v0 (-1) 0 i t).natAbs ≤ 100 := by
      unfold v0
      rw [if_neg (by omega)]
      split <;> omega
    have ih := fun L => lw_bd ts L (i + 1) fun x hx => h x (List.mem_cons_of_mem _ hx)
    unfold lw at hv
    split at hv
    · rename_i c
      rcases List.mem_cons.mp hv with rfl | hv
      · have c2 := c.2
        rcases g.sg with e | e <;> rw [e] <;> omega
      · exact ih _ v hv
    · rcases List.mem_cons.mp hv with rfl | hv
      · omega
      · exact ih _ v hv
theorem cut_m1 {α : Type} (xs : List α) (h : 0 < xs.length) : (PL.cutG xs none (some (-1))).length = xs.length - 1 := by
  unfold PL.cutG HT.sIx
  simp
  omega
theorem cut_len {α : Type} (xs : List α) (lo hi : Option Int) : (PL.cutG xs lo hi).length ≤ xs.length := by
  unfold PL.cutG
  rw [List.length_take, List.length_drop]
  omega
def YP (u : Int) (ts : List Tm) (w : Int × Int) (d : D) : Prop := Jd u ts w (.tup [.str "yes", d])
def JY (u : Int) (ts : List Tm) (w : Int × Int) (a0 a1 a2 a3 a4 a5 a6 : Option S) (i : Nat) (ρ : Rho) : Prop := ∃ (ds : List D) (v8 : Option S), (∀ d ∈ ds, YP u ts w d) ∧ ds.length ≤ 7 + i ∧ ρ = [a0, a1, a2, a3, a4, a5, a6, some (.o (.lst ds)), v8, none, none, none, none]
def JZ (a0 a1 a2 a3 a4 a5 a6 a7 a8 : Option S) (i : Nat) (ρ : Rho) : Prop := ∃ (vs : List Int) (v10 v11 : Option S), (∀ v ∈ vs, v.natAbs ≤ 400) ∧ vs.length = i ∧ ρ = [a0, a1, a2, a3, a4, a5, a6, a7, a8, some (.o (.lst (vs.map .int))), v10, v11, none]
theorem q_map {u : Int} (hu : Un u) (us : u ≤ 1000) (V : List Int) (vb : ∀ v ∈ V, v.natAbs ≤ 400) : V.map (qR u) = (V.map (60 * ·)).map (qR (60 * u)) := by
  rw [List.map_map]
  refine List.map_congr_left fun v hv => ?_
  have := vb v hv
  exact qR_sc hu us (by omega)
theorem y_small {u : Int} {ts : List Tm} {w : Int × Int} (s : Sub u ts w) (V : List Int) (vb : ∀ v ∈ V, v.natAbs ≤ 400) (vl : V.length ≤ 1000) : YP u ts w (.tup (V.map (qR u))) := by
  unfold YP
  rw [q_map s.hu s.us V vb]
  refine y_num s _ (fun x hx => ?_) (by simp; omega)
  obtain ⟨v, hv, rfl⟩ := List.mem_map.mp hx
  have := vb v hv
  omega
theorem be_map {u : Int} (hu : Un u) (us : u ≤ 1000) (V : List Int) (vb : ∀ v ∈ V, v.natAbs ≤ 400) : ∀ d ∈ V.map (qR u), BE u d := fun d hd => by
  obtain ⟨v, hv, rfl⟩ := List.mem_map.mp hd
  have := vb v hv
  exact .inl ⟨60 * v, by omega, qR_sc hu us (by omega)⟩
theorem y_mid {u : Int} {ts : List Tm} {w : Int × Int} (s : Sub u ts w) (V W : List Int) (vb : ∀ v ∈ V, v.natAbs ≤ 400) (wb : ∀ v ∈ W, v.natAbs ≤ 400) (vl : V.length ≤ 400) (wl : W.length ≤ 400) {d : D} (hd : Bad u d) : YP u ts w (.tup (V.map (qR u) ++ d :: W.map (qR u))) := by
  refine y_bad s _ (fun x hx => ?_) (by simp; omega) ⟨d, by simp, hd⟩
  rcases List.mem_append.mp hx with hx | hx
  · exact be_map s.hu s.us V vb x hx
  · rcases List.mem_cons.mp hx with rfl | hx
    · exact .inr hd
    · exact be_map s.hu s.us W wb x hx
theorem y_step {u : Int} {ts : List Tm} {w : Int × Int} (s : Sub u ts w) (V W : List Int) (vb : ∀ v ∈ V, v.natAbs ≤ 400) (wb : ∀ v ∈ W, v.natAbs ≤ 400) (vl : V.length ≤ 400) (wl : W.length ≤ 400) {z : Int} (hz : z.natAbs ≤ 30000) : YP u ts w (.tup (V.map (qR u) ++ qR (60 * u) z :: W.map (qR u))) := by
  have e : V.map (qR u) ++ qR (60 * u) z :: W.map (qR u) = (V.map (60 * ·) ++ z :: W.map (60 * ·)).map (qR (60 * u)) := by
    rw [List.map_append, List.map_cons, ← q_map s.hu s.us V vb, ← q_map s.hu s.us W wb]
  unfold YP
  rw [e]
  refine y_num s _ (fun x hx => ?_) (by simp; omega)
  rcases List.mem_append.mp hx with hx | hx
  · obtain ⟨v, hv, rfl⟩ := List.mem_map.mp hx
    have := vb v hv
    omega
  · rcases List.mem_cons.mp hx with rfl | hx
    · exact hz
    · obtain ⟨v, hv, rfl⟩ := List.mem_map.mp hx
      have := wb v hv
      omega
theorem s_yp {xs : List Int} (hx : Pl xs) {u : Int} {ts : List Tm} {w : Int × Int} (s : Sub u ts w) : ∃ ds : List D, (∀ d ∈ ds, YP u ts w d) ∧ ds.length ≤ 1000 ∧ m__law_yes_papers [.lst (xs.map .int), .lst (ts.map tD), pI w, .int u] = .ok (.o (.lst ds)) := by
  have key : Ev (m__law_yes_papers [.lst (xs.map .int), .lst (ts.map tD), pI w, .int u]) (fun r => ∃ ds : List D, (∀ d ∈ ds, YP u ts w d) ∧ ds.length ≤ 1000 ∧ r = .o (.lst ds)) := by
    have hl := s.h.len
    have hne := s.h.ne
    obtain ⟨p, q⟩ := w
    have lv := s_lvalues s.h p (-1) 0 (by decide)
    have vl := lw_len (-1) 0 ts (p - s0 (-1) 0 ts) 0
    have vb := lw_bd ts (p - s0 (-1) 0 ts) 0 s.h.ok
    generalize lw (-1) 0 (p - s0 (-1) 0 ts) 0 ts = V at *
    obtain ⟨x, x0, x1, ex⟩ := s_at hx 50 (by omega) (by omega)
    have n0 : (0 : Int) < ts.length := by omega
    have a0 := Int.emod_nonneg x (show (ts.length : Int) ≠ 0 by omega)
    have a1 := Int.emod_lt_of_pos x n0
    have x_t : ∀ xs : List D, dTup1 [.lst xs] = some (.v (.tup xs)) := fun _ => rfl
    have hv : (0 : Int) < V.length := by omega
    have hv' : ¬ V = [] := fun e => by rw [e] at hv; simp at hv
    have nn : ¬ ts = [] := fun e => by rw [e] at hne; simp at hne
    simp [m__law_yes_papers, b__law_yes_papers, pI, lv, x_eLc]
    refine lm_v V (qR u) (h := D.int) rfl (by omega) (fun v hm => ?_) ?_
    · have := vb v hm
      have e := s_lratio s.hu v (by omega)
      simp [b__law_yes_papers_c1, e]
    simp [ex, x_t, vl, hne, nn]

    generalize x % (ts.length : Int) = at_ at *
    obtain ⟨a, rfl⟩ : ∃ a : Nat, at_ = (a : Int) := ⟨at_.toNat, by omega⟩
    have ha : a < V.length := by omega
    have gv : L2.atI (V.map (qR u)) (a : Int) = some (qR u V[a]) := atI_ofNat _ _ _ (by simp [ha])
    have gi : L2.atI (V.map D.int) (a : Int) = some (.int V[a]) := atI_ofNat _ _ _ (by simp [ha])
    have bv := vb _ (List.getElem_mem ha)
    have c1 : PL.cutG (V.map (qR u)) none (some (a : Int)) = (V.take a).map (qR u) := by rw [cutG_to (by omega)]; simp
    have c2 : PL.cutG (V.map (qR u)) (some ((a : Int) + 1)) none = (V.drop (a + 1)).map (qR u) := by rw [cutG_from (by omega)]; simp
    have q0' : dIx (qR u V[a]) (.int 0) = some (.v (.int (R u V[a]).1)) := q0 false _
    have q1' : dIx (qR u V[a]) (.int 1) = some (.v (.int (R u V[a]).2)) := q1 false _
    have m2 : ∀ z : Int, dMul (.int 2) (.int z) = some (.v (.int (2 * z))) := fun z => x_mulL (by decide)
    have m6 : ∀ z : Int, dMul (.int 60) (.int z) = some (.v (.int (60 * z))) := fun z => x_mulL (by decide)
    have l1 : ts.length ≤ 16777215 := by omega
    have lA : ((V.take a).map (qR u)).length ≤ 6 := by simp; omega
    have lB : ((V.drop (a + 1)).map (qR u)).length ≤ 6 := by simp; omega
    generalize hA : (V.take a).map (qR u) = A at *
    generalize hB : (V.drop (a + 1)).map (qR u) = B at *
    have k1 : A.length ≤ 16777215 := by omega
    have k2 : A.length + 1 + B.length ≤ 16777216 := by omega
    simp [-x_mul, gv, gi, c1, c2, q0', q1', m2, l1, vl, k1, k2]

    have vb4 : ∀ v ∈ V, v.natAbs ≤ 400 := fun v hv => by have := vb v hv; omega
    have Ab : ∀ v ∈ V.take a, v.natAbs ≤ 400 := fun v hv => vb4 v (List.mem_of_mem_take hv)
    have Bb : ∀ v ∈ V.drop (a + 1), v.natAbs ≤ 400 := fun v hv => vb4 v (List.mem_of_mem_drop hv)
    have la : (V.take a).length ≤ 400 := by simp; omega
    have lb : (V.drop (a + 1)).length ≤ 400 := by simp; omega
    have mid : ∀ {d : D}, Bad u d → YP u ts (p, q) (.tup (A ++ d :: B)) := fun {d} hd => by
      rw [← hA, ← hB]
      exact y_mid s _ _ Ab Bb la lb hd
    have stp : ∀ {z : Int}, z.natAbs ≤ 30000 → YP u ts (p, q) (.tup (A ++ qR (60 * u) z :: B)) := fun {z} hz => by
      rw [← hA, ← hB]
      exact y_step s _ _ Ab Bb la lb hz
    have rt := (R_rt s.hu (v := V[a]) (by omega))
    have rp := rt.pos
    have rg := rt.g
    have y1 := y_small s V vb4 (by omega)
    have y2 : YP u ts (p, q) (.lst (V.map (qR u))) := y_lst s _
    have y3 : YP u ts (p, q) (.tup (cutG (V.map (qR u)) none (some (-1)))) := y_len s _ (by rw [cut_m1 _ (by simp; omega)]; simp; omega)
    have y4 : YP u ts (p, q) (.tup (V.map (qR u) ++ [.tup [.int 0, .int 1]])) := y_len s _ (by simp; omega)
    have y5 : YP u ts (p, q) (.tup (A ++ .int (R u V[a]).1 :: B)) := mid (bad_int u _)
    have y6 : YP u ts (p, q) (.tup (A ++ .tup [.int (2 * (R u V[a]).1), .int (2 * (R u V[a]).2)] :: B)) := mid (bad_pair (a := 2 * (R u V[a]).1) (b := 2 * (R u V[a]).2) s.hu s.us (fun z => by
      have z2 := z.2
      rw [Int.gcd_mul_left, rg] at z2
      simp at z2))
    have y7 : YP u ts (p, q) (.tup (A ++ .tup [.int (R u V[a]).1, .int (-(R u V[a]).2)] :: B)) := mid (bad_pair (a := (R u V[a]).1) (b := -(R u V[a]).2) s.hu s.us (fun z => by
      have z1 := z.1
      omega))
    have lr := fun z => s_lratioA (un60 s.hu s.us) z
    generalize V[a] = va at *
    refine lp_v [60, -60, 1, -1, 30] (h := D.int) (J := JY u ts (p, q) (some (.v (.lst (xs.map .int)))) (some (.v (.lst (ts.map tD)))) (some (.v (.tup [.int p, .int q]))) (some (.v (.int u))) (some (.v (.lst (V.map .int)))) (some (.v (.tup (V.map (qR u))))) (some (.v (.int (a : Int))))) rfl ⟨_, none, fun d hd => ?_, by simp, rfl⟩ ?_ ?_
    · simp only [List.mem_cons, List.not_mem_nil, or_false] at hd
      rcases hd with rfl | rfl | rfl | rfl | rfl | rfl | rfl
      · exact y1
      · exact y2
      · exact y3
      · exact y4
      · exact y5
      · exact y6
      · exact y7
    · rintro i z _ hz ⟨ds, v8, hd, dl, rfl⟩
      have hm := List.mem_of_getElem? hz
      have hi := (List.getElem?_eq_some_iff.mp hz).1
      simp at hi
      have zb : (60 * va + z).natAbs ≤ 30000 := by
        simp only [List.mem_cons, List.not_mem_nil, or_false] at hm
        omega
      have y := stp zb
      have lr := lr (60 * va + z)
      have kd : ds.length < 16777216 := by omega
      simp [-x_mul, b__law_yes_papers_f2, gv, gi, c1, c2, m6, lr, k1, k2, kd]
      refine ⟨ds ++ [_], _, fun d hd' => ?_, by simp; omega, rfl⟩
      rcases List.mem_append.mp hd' with h | h
      · exact hd d h
      · cases List.mem_singleton.mp h
        exact y
    rintro _ ⟨ds, v8, hd, dl, rfl⟩
    have x1 := x_int1' (ts.length : Int) (by omega)
    simp [x1]
    refine rg_v (J := JZ (some (.v (.lst (xs.map .int)))) (some (.v (.lst (ts.map tD)))) (some (.v (.tup [.int p, .int q]))) (some (.v (.int u))) (some (.v (.lst (V.map .int)))) (some (.v (.tup (V.map (qR u))))) (some (.v (.int (a : Int)))) (some (.o (.lst ds))) v8) ⟨[], none, none, by simp, rfl, rfl⟩ ?_ ?_
    · rintro i _ hi ⟨vs, v10, v11, hvs, hvl, rfl⟩
      have gx : L2.atI (ts.map tD) (i : Int) = some (tD ts[i]) := atI_ofNat _ _ _ (by simp [hi])
      have g := s.h.ok ts[i] (List.getElem_mem hi)
      obtain ⟨y, y0, y1, ey⟩ := s_at hx (51 + (i : Int)) (by omega) (by omega)
      generalize ts[i] = t at *
      have e1 : dIx (tD t) (.int 1) = some (.v (.lst (t.rs.map pI))) := by simp [tD]
      have m := s_meet g
      have b1 := mx_bd g
      have b2 := mn_bd g
      have c0 : 0 < (if mn t - mx t < 0 then -(mn t - mx t) else mn t - mx t) + 1 := by split <;> omega
      have c1 : (if mn t - mx t < 0 then -(mn t - mx t) else mn t - mx t) + 1 ≤ 201 := by split <;> omega
      have c2 := Int.emod_nonneg y (show (if mn t - mx t < 0 then -(mn t - mx t) else mn t - mx t) + 1 ≠ 0 by omega)
      have c3 := Int.emod_lt_of_pos y c0
      have kv : vs.length < 16777216 := by omega
      simp [b__law_yes_papers_f3, gx, e1, m, ey]
      generalize (if mn t - mx t < 0 then -(mn t - mx t) else mn t - mx t) = sp at *
      simp [c0, kv]
      refine ⟨vs ++ [mx t + y % (sp + 1)], _, _, fun v hv => ?_, by simp; omega, by rw [List.map_append]; rfl⟩
      rcases List.mem_append.mp hv with h | h
      · exact hvs v h
      · cases List.mem_singleton.mp h
        omega
    rintro _ ⟨vs, v10, v11, hvs, hvl, rfl⟩
    simp [x_eLc]
    refine lm_v vs (qR u) (h := D.int) rfl (by omega) (fun v hm => ?_) ?_
    · have := hvs v hm
      have e := s_lratio s.hu v (by omega)
      simp [b__law_yes_papers_c4, e]
    have dl : ds.length ≤ 12 := dl
    have kd : ds.length < 16777216 := by omega
    have kd2 : ds.length + 1 + 4 ≤ 16777216 := by omega
    have kd3 : ds.length ≤ 16777211 := by omega
    have yv := y_small s vs hvs (by omega)
    simp [x_t, kd, kd2, kd3]
    refine ⟨fun d hd' => ?_, by omega⟩
    rcases hd' with h | rfl | rfl | rfl | rfl | rfl
    · exact hd d h
    · exact yv
    · exact y_len s _ (by simp; omega)
    · exact y_non s
    · exact y_int s 1
    · exact y_str s _
  obtain ⟨r, e, ds, h1, h2, rfl⟩ := key
  exact ⟨ds, h1, h2, e⟩
end K16

namespace K16
open PL PySem Std
def NP (u : Int) (ts : List Tm) (w : Int × Int) (d : D) : Prop := Jd u ts w (.tup [.str "no", d])
section
variable {u : Int} {ts : List Tm} {w : Int × Int} (s : Sub u ts w)
include s
theorem n_ap {a : Nat} (ha : a < ts.length) (b c : Nat) : NP u ts w (apD a b c) := by
  have ht : ts[a]? = some ts[a] := List.getElem?_eq_getElem ha
  exact j_no s (u_apart s.hu s.h w ht b c) (l_apart w ht b c) fun e => by
    have := nm_any (List.getElem_mem ha) e
    unfold isNo
    rw [this]
    rfl
theorem n_ou (o : Bool) (v : Int) (hv : v.natAbs < 15000) : NP u ts w (.tup [wdD o, qR u v]) := j_no s (u_ou s.hu s.h w s.w1 s.w2 o v hv) (l_ou s.hu s.us s.h w o v hv) ou_no
theorem n_mass : NP u ts w (.tup [.str "mass"]) := o_one s _
end
def JA (u : Int) (ts : List Tm) (w : Int × Int) (a0 a1 a2 a3 a5 : Option S) (i : Nat) (ρ : Rho) : Prop := ∃ (ds : List D) (v6 v9 : Option S), (∀ d ∈ ds, NP u ts w d) ∧ ds.length ≤ 8 + 4 * i ∧ ρ = [a0, a1, a2, a3, some (.o (.lst ds)), a5, v6, none, none, v9, none]
def JB (u : Int) (ts : List Tm) (w : Int × Int) (a0 a1 a2 a3 a5 a6 : Option S) (n i : Nat) (ρ : Rho) : Prop := ∃ (ds : List D) (v9 : Option S), (∀ d ∈ ds, NP u ts w d) ∧ ds.length ≤ n + i ∧ ρ = [a0, a1, a2, a3, some (.o (.lst ds)), a5, a6, none, none, v9, none]
def JC (u : Int) (ts : List Tm) (w : Int × Int) (a0 a1 a2 a3 a5 a6 a7 a9 : Option S) (i : Nat) (ρ : Rho) : Prop := ∃ (ds : List D) (v8 v10 : Option S), (∀ d ∈ ds, NP u ts w d) ∧ ds.length ≤ 26 + 6 * i ∧ ρ = [a0, a1, a2, a3, some (.o (.lst ds)), a5, a6, a7, v8, a9, v10]
def JE2 (u : Int) (ts : List Tm) (w : Int × Int) (a0 a1 a2 a3 a5 a6 a7 a8 a9 : Option S) (n i : Nat) (ρ : Rho) : Prop := ∃ (ds : List D) (v10 : Option S), (∀ d ∈ ds, NP u ts w d) ∧ ds.length ≤ n + 3 * i ∧ ρ = [a0, a1, a2, a3, some (.o (.lst ds)), a5, a6, a7, a8, a9, v10]
def b_N3 : Sx := (sSeq (sSet [] 7 (eCall [] 1 m__law_ends (aCons (eVar 1) (aNil)))) (sSeq (sFor (iVal [] (eLst [] (aCons (e2 dSub (e2 dIx (eVar 7) (eC (.int 0))) (e2 dIx (eVar 2) (eC (.int 1)))) (aCons (e2 dSub (e2 dIx (eVar 2) (eC (.int 0))) (e2 dIx (eVar 7) (eC (.int 1)))) (aCons (eC (.int 0)) (aCons (eC (.int 1)) (aNil))))))) (gNm [] 8) b__law_no_papers_f4) (sRet [] (eVar 4))))
theorem np_fin {u : Int} {ts : List Tm} {w : Int × Int} (s : Sub u ts w) (a0 a5 a6 a9 : Option S) (ds : List D) (hd : ∀ d ∈ ds, NP u ts w d) (dl : ds.length ≤ 26) :
    Ev (b_N3 [a0, some (.v (.lst (ts.map tD))), some (.v (pI w)), some (.v (.int u)), some (.o (.lst ds)), a5, a6, none, none, a9, none]) (fun q => ∃ (es : List D) (ρ : Rho), ((∀ d ∈ es, NP u ts w d) ∧ es.length ≤ 1000) ∧ q = .ret (.o (.lst es)) ρ) := by
  have hl := s.h.len
  have en := s_ends s.h.ok
  have b1 := sum_bd (f := sl) fun t ht => sl_bd (s.h.ok t ht)
  have b2 := sum_bd (f := sh) fun t ht => sh_bd (s.h.ok t ht)
  have w1 := s.v1
  have w2 := s.v2
  obtain ⟨p, q⟩ := w
  simp only at w1 w2
  generalize (ts.map sl).sum = A at *
  generalize (ts.map sh).sum = B at *
  simp [b_N3, en, pI]
  refine lp_v [A - q, p - B, 0, 1] (h := D.int) (J := JC u ts (p, q) a0 (some (.v (.lst (ts.map tD)))) (some (.v (pI (p, q)))) (some (.v (.int u))) a5 a6 (some (.v (.tup [.int A, .int B]))) a9) rfl ⟨ds, none, none, hd, by omega, rfl⟩ ?_ ?_
  · rintro i z _ hz ⟨ds, v8, v10, hd, dl, rfl⟩
    have hm := List.mem_of_getElem? hz
    have hi := (List.getElem?_eq_some_iff.mp hz).1
    simp at hi
    have zb : z.natAbs ≤ 7000 := by
      simp only [List.mem_cons, List.not_mem_nil, or_false] at hm
      omega
    simp [b__law_no_papers_f4]
    have ll : [D.str "over", D.str "under"] = [true, false].map wdD := rfl
    refine lp_a [true, false] (h := wdD) (J := JE2 u ts (p, q) a0 (some (.v (.lst (ts.map tD)))) (some (.v (pI (p, q)))) (some (.v (.int u))) a5 a6 (some (.v (.tup [.int A, .int B]))) (some (.v (.int z))) a9 (26 + 6 * i)) ll ⟨ds, v10, hd, dl, rfl⟩ ?_ ?_
    · rintro j o _ ho ⟨ds, v10, hd, dl, rfl⟩
      have hj := (List.getElem?_eq_some_iff.mp ho).1
      simp at hj
      have m2 : ∀ z : Int, dMul (.int 2) (.int z) = some (.v (.int (2 * z))) := fun z => x_mulL (by decide)
      have r1 := s_lratioA s.hu z
      have r2 := s_lratioA s.hu (2 * z)
      have r3 := s_lratioA s.hu (-z)
      have y1 := n_ou s o z (by omega)
      have y2 := n_ou s o (2 * z) (by omega)
      have y3 := n_ou s o (-z) (by omega)
      have k1 : ds.length < 16777216 := by omega
      have k2 : ds.length + 1 < 16777216 := by omega
      have k3 : ds.length + 1 + 1 < 16777216 := by omega
      have k2' : ds.length < 16777215 := by omega
      have k3' : ds.length + 1 < 16777215 := by omega
      have k3'' : ds.length < 16777214 := by omega
      have wd : ∀ {l : List Nat} {ρ : Rho}, bd l (.v (wdD o)) ρ = .ok (.v (wdD o), ρ) := fun {l} {ρ} => by simp
      simp [-x_mul, b__law_no_papers_f3, r1, r2, r3, m2, k1, k2, k3, k2', k3', k3'']
      refine ⟨ds ++ [.tup [wdD o, qR u z], .tup [wdD o, qR u (2 * z)], .tup [wdD o, qR u (-z)]], _, fun d hd' => ?_, by simp; omega, rfl⟩
      rcases List.mem_append.mp hd' with h | h
      · exact hd d h
      · simp only [List.mem_cons, List.not_mem_nil, or_false] at h
        rcases h with rfl | rfl | rfl
        · exact y1
        · exact y2
        · exact y3
    · rintro _ ⟨ds, v10, hd, dl, rfl⟩
      have dl : ds.length ≤ 26 + 6 * i + 3 * 2 := dl
      simp
      exact ⟨ds, _, _, hd, by omega, rfl⟩
  · rintro _ ⟨ds, v8, v10, hd, dl, rfl⟩
    have dl : ds.length ≤ 26 + 6 * 4 := dl
    simp
    exact ⟨hd, by omega⟩
theorem s_np {xs : List Int} (hx : Pl xs) {u : Int} {ts : List Tm} {w : Int × Int} (s : Sub u ts w) : ∃ ds : List D, (∀ d ∈ ds, NP u ts w d) ∧ ds.length ≤ 1000 ∧ m__law_no_papers [.lst (xs.map .int), .lst (ts.map tD), pI w, .int u] = .ok (.o (.lst ds)) := by
  have key : Ev (m__law_no_papers [.lst (xs.map .int), .lst (ts.map tD), pI w, .int u]) (fun r => ∃ ds : List D, ((∀ d ∈ ds, NP u ts w d) ∧ ds.length ≤ 1000) ∧ r = .o (.lst ds)) := by
    have hl := s.h.len
    have hne := s.h.ne
    obtain ⟨x, x0, x1, ex⟩ := s_at hx 60 (by omega) (by omega)
    have n0 : (0 : Int) < ts.length := by omega
    have a0 := Int.emod_nonneg x (show (ts.length : Int) ≠ 0 by omega)
    have a1 := Int.emod_lt_of_pos x n0
    have nn : ¬ ts = [] := fun e => by rw [e] at hne; simp at hne
    have f := s_lapart s.h.ok s.h.len
    have x4 : int1 [.int 4] = some 4 := x_int1' _ (by decide)
    have fin := fun a0 a5 a6 a9 => np_fin s a0 a5 a6 a9
    simp only [m__law_no_papers, b__law_no_papers]
    rw [← b_N3]
    generalize b_N3 = TT at fin
    simp [ex, hne, nn]
    generalize x % (ts.length : Int) = at_ at *
    obtain ⟨a, rfl⟩ : ∃ a : Nat, at_ = (a : Int) := ⟨at_.toNat, by omega⟩
    have ha : a < ts.length := by omega
    simp [x4]
    refine rg_v (J := JA u ts w (some (.v (.lst (xs.map .int)))) (some (.v (.lst (ts.map tD)))) (some (.v (pI w))) (some (.v (.int u))) (some (.v (.int (a : Int))))) ⟨_, none, none, fun d hd => ?_, ?_, rfl⟩ ?_ ?_
    · simp only [List.mem_cons, List.not_mem_nil, or_false] at hd
      rcases hd with rfl | rfl | rfl | rfl | rfl | rfl | rfl | rfl
      · exact o_nil s
      · exact o_non s
      · exact o_one s _
      · exact o_one s _
      · exact n_ap s hne 0 0
      · exact o_lst s _
      · exact o_aptrue s
      · exact o_over1 s
    · simp
    · rintro i _ hi ⟨ds, v6, v9, hd, dl, rfl⟩
      simp [b__law_no_papers_f2, x4]
      refine rg_a (J := JB u ts w (some (.v (.lst (xs.map .int)))) (some (.v (.lst (ts.map tD)))) (some (.v (pI w))) (some (.v (.int u))) (some (.v (.int (a : Int)))) (some (.v (.int (i : Int)))) (8 + 4 * i)) ⟨ds, v9, hd, dl, rfl⟩ ?_ ?_
      · rintro j _ hj ⟨ds, v9, hd, dl, rfl⟩
        have k1 : ds.length < 16777216 := by omega
        have y := n_ap s ha i j
        simp [b__law_no_papers_f1, k1]
        refine ⟨ds ++ [apD a i j], _, fun d hd' => ?_, by simp; omega, rfl⟩
        rcases List.mem_append.mp hd' with h | h
        · exact hd d h
        · cases List.mem_singleton.mp h
          exact y
      · rintro _ ⟨ds, v9, hd, dl, rfl⟩
        have dl : ds.length ≤ 8 + 4 * i + 4 := dl
        simp
        exact ⟨ds, _, _, hd, by omega, rfl⟩
    · rintro _ ⟨ds, v6, v9, hd, dl, rfl⟩
      have dl : ds.length ≤ 8 + 4 * 4 := dl
      cases e : apF 0 ts with
      | none =>
        rw [e] at f
        simp at f
        obtain ⟨q, e2, es, ρ, h1, rfl⟩ := fin (some (.v (.lst (xs.map .int)))) (some (.v (.int (a : Int)))) v6 v9 ds hd (by omega)
        simp [f, e2]
        exact h1
      | some d =>
        have dn := apF_non e
        obtain ⟨i, t, ht, c, hdd⟩ := apF_ex e
        rw [Nat.zero_add] at hdd
        have hdd : d = apD i (jH t) (jL t) := hdd
        have y := n_ap s (List.getElem?_eq_some_iff.mp ht).1 (jH t) (jL t)
        have ls : dLst1 [d] = some (.o (.lst [.str "apart", .int (i : Int), .int (jH t : Int), .int (jL t : Int)])) := by rw [hdd]; rfl
        rw [← hdd] at y
        rw [e] at f
        simp at f
        have k1 : ds.length < 16777216 := by omega
        have k2 : ds.length < 16777215 := by omega
        have k2' : ds.length + 1 < 16777216 := by omega
        obtain ⟨q, e2, es, ρ, h1, rfl⟩ := fin (some (.v (.lst (xs.map .int)))) (some (.v (.int (a : Int)))) v6 v9 (ds ++ [d, .lst [.str "apart", .int (i : Int), .int (jH t : Int), .int (jL t : Int)]]) (fun z hz => by
          rcases List.mem_append.mp hz with h | h
          · exact hd z h
          · simp only [List.mem_cons, List.not_mem_nil, or_false] at h
            rcases h with rfl | rfl
            · exact y
            · exact o_lst s _) (by simp; omega)
        simp [f, dn, k1, k2, k2', ls, e2]
        exact h1
  obtain ⟨r, e, ds, ⟨h1, h2⟩, rfl⟩ := key
  exact ⟨ds, h1, h2, e⟩
end K16

namespace K16
open PL PySem Std
theorem law_turn {u : Int} {ts : List Tm} {w : Int × Int} {a : D} (j : Jd u ts w a) {W : Str} (hW : wS ts w = W) (p : D) (v0 v1 v2 v8 v10 : Option S) :
    ∃ v10', b_law_f3 [v0, v1, v2, some (.v (.lst (ts.map tD))), some (.v (.int u)), some (.v (pI w)), some (.v (sD u ts w)), some (.v (.tup [.str W, p])), v8, some (.v a), v10, none] = .ok (.next [v0, v1, v2, some (.v (.lst (ts.map tD))), some (.v (.int u)), some (.v (pI w)), some (.v (sD u ts w)), some (.v (.tup [.str W, p])), v8, some (.v a), v10', none]) := by
  obtain ⟨b, e1, e2, e3⟩ := j
  refine ⟨some (.v (.bl b)), ?_⟩
  cases b with
  | false => simp [b_law_f3, e1, e2]
  | true =>
    have e3 := e3 rfl
    rw [hW] at e3
    simp [b_law_f3, e1, e2, e3]
theorem plain (ns : List Int) (hl : ns.length ≤ 63) : m_law [.scr ns] = .ok (.v (.bl true)) := by
  obtain ⟨xs, hx, ex⟩ := s_pool ns hl
  obtain ⟨ts, u, h, hu, us, es⟩ := s_strike hx 0 (by omega) (by omega)
  obtain ⟨a, b, ⟨ab0, ab1, ab2⟩, et⟩ := s_total hx 40 (by omega) (by omega) h
  have s : Sub u ts (a, b) := ⟨hu, us, h, by show a.natAbs < 5000; omega, by show b.natAbs < 5000; omega, ab1⟩
  have eS := s_subject hu h (a, b) (by show a.natAbs < 1000000; omega) (by show b.natAbs < 1000000; omega)
  have eD := s_due hu h (a, b) s.w1 s.w2
  have eT := p_settle hu us h (a, b) s.w1 s.w2 s.hw
  obtain ⟨p, ea, up, j0, jn, jy⟩ := due_ok s
  obtain ⟨ys, hy, yl, ey⟩ := s_yp hx s
  obtain ⟨zs, hz, zl, ez⟩ := s_np hx s
  rw [ea] at eD eT up j0
  have lt := fun {d : D} (j : Jd u ts (a, b) d) => law_turn j (W := wS ts (a, b)) rfl p
  generalize wS ts (a, b) = W at *
  have c1 : PL.cutG [D.str W, p] none (some 1) = [.str W] := by rw [cutG_to (by decide)]; rfl
  have pe : pI (a, b) = .tup [.int a, .int b] := rfl
  rw [pe] at eS eD ey ez lt
  have js : ∀ d ∈ [D.tup [.str W, p], .tup [.str "no", p], .tup [.str "yes", p], .lst [.str W, p], .tup [.str W, p, .int 1], .non, .str "yes", .int 4, .tup [.bl true, p], .tup [.str W]] ++ ys.map (fun d => D.tup [.str "yes", d]) ++ zs.map (fun d => D.tup [.str "no", d]), Jd u ts (a, b) d := fun d hd => by
    rcases List.mem_append.mp hd with hd | hd
    · rcases List.mem_append.mp hd with hd | hd
      · simp only [List.mem_cons, List.not_mem_nil, or_false] at hd
        rcases hd with rfl | rfl | rfl | rfl | rfl | rfl | rfl | rfl | rfl | rfl
        · exact j0
        · exact jn
        · exact jy
        · exact j_lst s _
        · exact j_three s _ _ _
        · exact j_non s
        · exact j_str s _
        · exact j_int s _
        · exact j_true s _
        · exact j_one s _
      · obtain ⟨y, hm, rfl⟩ := List.mem_map.mp hd
        exact hy y hm
    · obtain ⟨z, hm, rfl⟩ := List.mem_map.mp hd
      exact hz z hm
  generalize hS : sD u ts (a, b) = SS at *
  simp [m_law, b_law, ex, es, et, eS, eD, eT, up, c1, ey, x_eLc]
  refine lm_b ys (fun d => .tup [.str "yes", d]) (h := id) (List.map_id ys).symm (by omega) (fun d hm => ?_) ?_
  · simp [b_law_c1]
  have k1 : ys.length ≤ 16777206 := by omega
  have k1' : 10 + ys.length ≤ 16777216 := by omega
  simp [k1, k1', ez, x_eLc]
  refine lm_b zs (fun d => .tup [.str "no", d]) (h := id) (List.map_id zs).symm (by omega) (fun d hm => ?_) ?_
  · simp [b_law_c2]
  have k2 : ys.length + 10 + zs.length ≤ 16777216 := by omega
  have k2' : 10 + ys.length + zs.length ≤ 16777216 := by omega
  simp [k2, k2']
  generalize hL : [D.tup [.str W, p], .tup [.str "no", p], .tup [.str "yes", p], .lst [.str W, p], .tup [.str W, p, .int 1], .non, .str "yes", .int 4, .tup [.bl true, p], .tup [.str W]] ++ ys.map (fun d => D.tup [.str "yes", d]) ++ zs.map (fun d => D.tup [.str "no", d]) = L at js
  simp at hL
  rw [hL]
  refine lp_eq L (h := id) (J := fun i ρ => ∃ v9 v10, ρ = [some (.v (.scr ns)), some (.v (.lst (xs.map .int))), some (.v (.tup [.lst (ts.map tD), .int u])), some (.v (.lst (ts.map tD))), some (.v (.int u)), some (.v (.tup [.int a, .int b])), some (.v SS), some (.v (.tup [.str W, p])), some (.v (.lst L)), v9, v10, none]) (List.map_id L).symm ⟨none, none, rfl⟩ ?_ ?_
  · rintro i d _ hd ⟨v9, v10, rfl⟩
    obtain ⟨v10', e⟩ := lt (js d (List.mem_of_getElem? hd)) (some (.v (.scr ns))) (some (.v (.lst (xs.map .int)))) (some (.v (.tup [.lst (ts.map tD), .int u]))) (some (.v (.lst L))) v10
    simp [e]
  · rintro _ ⟨v9, v10, rfl⟩
    simp
end K16

open PySem PySem.W PyProof.Rows
set_option maxRecDepth 100000 in
set_option maxHeartbeats 0 in
theorem PySem.Challenge.cw_typefoundry_k16_whole_strikes_holds : PySem.Challenge.rw_typefoundry_k16_whole_strikes.Holds := by
  w_on; o_law; k_head; (case hw => w_witness2)
  k_fill
  refine L2.walk_of (l := PySem.Challenge.rw_typefoundry_k16_whole_strikes) (n := 63) (k := 11) (x := "script") (CX := fun w => L2.CX PySem.Challenge.pw_typefoundry_k16_whole_strikes w) (sp := fun w => PL.spL _) rfl (by decide) rfl ⟨rfl, by decide, by decide⟩ (fun w h Y => PySem.W.kIn_of Y) ?F (fun _ _ _ _ hl hO hS => PL.spL_of hl hO hS) (fun _ _ _ _ _ z => PL.noCX z)
  case F =>
    intro w mg fa h KX G hmg
    refine' K16.all_mk KX G hmg K16.plain ?g_BadRatio ?s_BadRatio ?t_BadRatio ?e_BadRatio ?k_BadRatio ?g_BadStrike ?s_BadStrike ?t_BadStrike ?e_BadStrike ?k_BadStrike ?v_GREATEST_BOTTOM ?v_GREATEST_TOP ?v_MOST_READINGS ?v_MOST_TERMS ?v_ZERO ?w_ZERO ?u_gcd ?n_abs ?n_all ?n_any ?n_bool ?n_enumerate ?n_int ?n_isinstance ?n_len ?n_list ?n_max ?n_min ?n_range ?n_str ?n_sum ?n_tuple ?n_zip ?a__law_pool ?l__law_pool ?c__law_pool ?k__law_pool ?a__law_at ?l__law_at ?c__law_at ?k__law_at ?a__law_strike ?l__law_strike ?c__law_strike ?k__law_strike ?a__law_meet ?l__law_meet ?c__law_meet ?k__law_meet ?a__law_ends ?l__law_ends ?c__law_ends ?k__law_ends ?a__law_total ?l__law_total ?c__law_total ?k__law_total ?a__law_ratio ?l__law_ratio ?c__law_ratio ?k__law_ratio ?a__law_as_reading ?l__law_as_reading ?c__law_as_reading ?k__law_as_reading ?a__law_subject ?l__law_subject ?c__law_subject ?k__law_subject ?a__law_apart ?l__law_apart ?c__law_apart ?k__law_apart ?a__law_values ?l__law_values ?c__law_values ?k__law_values ?a__law_due ?l__law_due ?c__law_due ?k__law_due ?a_is_tuple_of ?l_is_tuple_of ?c_is_tuple_of ?k_is_tuple_of ?a_is_whole ?l_is_whole ?c_is_whole ?k_is_whole ?a_is_ratio ?l_is_ratio ?c_is_ratio ?k_is_ratio ?a_check_ratio ?l_check_ratio ?c_check_ratio ?k_check_ratio ?a_compare ?l_compare ?c_compare ?k_compare ?a_is_small_ratio ?l_is_small_ratio ?c_is_small_ratio ?k_is_small_ratio ?a_is_reading ?l_is_reading ?c_is_reading ?k_is_reading ?a_are_readings ?l_are_readings ?c_are_readings ?k_are_readings ?a_is_term ?l_is_term ?c_is_term ?k_is_term ?a_check_strike ?l_check_strike ?c_check_strike ?k_check_strike ?a_ratio ?l_ratio ?c_ratio ?k_ratio ?a_plus ?l_plus ?c_plus ?k_plus ?a_total ?l_total ?c_total ?k_total ?a_sums ?l_sums ?c_sums ?k_sums ?a_is_whole_in ?l_is_whole_in ?c_is_whole_in ?k_is_whole_in ?a_names_apart ?l_names_apart ?c_names_apart ?k_names_apart ?a_larger ?l_larger ?c_larger ?k_larger ?a_greatest_low ?l_greatest_low ?c_greatest_low ?k_greatest_low ?a_lesser ?l_lesser ?c_lesser ?k_lesser ?a_least_high ?l_least_high ?c_least_high ?k_least_high ?a_are_apart ?l_are_apart ?c_are_apart ?k_are_apart ?a_any_apart ?l_any_apart ?c_any_apart ?k_any_apart ?a_minus ?l_minus ?c_minus ?k_minus ?a_signed_bounds ?l_signed_bounds ?c_signed_bounds ?k_signed_bounds ?a_is_unsound ?l_is_unsound ?c_is_unsound ?k_is_unsound ?a_is_answer ?l_is_answer ?c_is_answer ?k_is_answer ?a_lies_in ?l_lies_in ?c_lies_in ?k_lies_in ?a_times ?l_times ?c_times ?k_times ?a_with_signs ?l_with_signs ?c_with_signs ?k_with_signs ?a_are_measures ?l_are_measures ?c_are_measures ?k_are_measures ?a_upholds_strike ?l_upholds_strike ?c_upholds_strike ?k_upholds_strike ?a__law_is_whole ?l__law_is_whole ?c__law_is_whole ?k__law_is_whole ?a__law_parts ?l__law_parts ?c__law_parts ?k__law_parts ?a__law_yes ?l__law_yes ?c__law_yes ?k__law_yes ?a__law_names_apart ?l__law_names_apart ?c__law_names_apart ?k__law_names_apart ?a__law_no ?l__law_no ?c__law_no ?k__law_no ?a__law_right ?l__law_right ?c__law_right ?k__law_right ?a_first_apart ?l_first_apart ?c_first_apart ?k_first_apart ?a_raised_values ?l_raised_values ?c_raised_values ?k_raised_values ?a_settle_strike ?l_settle_strike ?c_settle_strike ?k_settle_strike ?a__law_yes_papers ?l__law_yes_papers ?c__law_yes_papers ?k__law_yes_papers ?a__law_no_papers ?l__law_no_papers ?c__law_no_papers ?k__law_no_papers ?a_law ?l_law ?c_law ?k_law
    (case g_BadRatio => k_is)
    (case s_BadRatio => k_is)
    (case t_BadRatio => k_is)
    (case e_BadRatio => k_exc)
    (case k_BadRatio => k_is)
    (case g_BadStrike => k_is)
    (case s_BadStrike => k_is)
    (case t_BadStrike => k_is)
    (case e_BadStrike => k_exc)
    (case k_BadStrike => k_is)
    (case v_GREATEST_BOTTOM => k_is)
    (case v_GREATEST_TOP => k_is)
    (case v_MOST_READINGS => k_is)
    (case v_MOST_TERMS => k_is)
    (case v_ZERO => k_is)
    (case w_ZERO => k_is)
    (case u_gcd => k_is)
    (case n_abs => k_is)
    (case n_all => k_is)
    (case n_any => k_is)
    (case n_bool => k_is)
    (case n_enumerate => k_is)
    (case n_int => k_is)
    (case n_isinstance => k_is)
    (case n_len => k_is)
    (case n_list => k_is)
    (case n_max => k_is)
    (case n_min => k_is)
    (case n_range => k_is)
    (case n_str => k_is)
    (case n_sum => k_is)
    (case n_tuple => k_is)
    (case n_zip => k_is)
    (case a__law_pool => k_is)
    (case l__law_pool => k_is)
    (case c__law_pool => k_is)
    (case k__law_pool => k_is)
    (case a__law_at => k_is)
    (case l__law_at => k_is)
    (case c__law_at => k_is)
    (case k__law_at => k_is)
    (case a__law_strike => k_is)
    (case l__law_strike => k_is)
    (case c__law_strike => k_is)
    (case k__law_strike => k_is)
    (case a__law_meet => k_is)
    (case l__law_meet => k_is)
    (case c__law_meet => k_is)
    (case k__law_meet => k_is)
    (case a__law_ends => k_is)
    (case l__law_ends => k_is)
    (case c__law_ends => k_is)
    (case k__law_ends => k_is)
    (case a__law_total => k_is)
    (case l__law_total => k_is)
    (case c__law_total => k_is)
    (case k__law_total => k_is)
    (case a__law_ratio => k_is)
    (case l__law_ratio => k_is)
    (case c__law_ratio => k_is)
    (case k__law_ratio => k_is)
    (case a__law_as_reading => k_is)
    (case l__law_as_reading => k_is)
    (case c__law_as_reading => k_is)
    (case k__law_as_reading => k_is)
    (case a__law_subject => k_is)
    (case l__law_subject => k_is)
    (case c__law_subject => k_is)
    (case k__law_subject => k_is)
    (case a__law_apart => k_is)
    (case l__law_apart => k_is)
    (case c__law_apart => k_is)
    (case k__law_apart => k_is)
    (case a__law_values => k_is)
    (case l__law_values => k_is)
    (case c__law_values => k_is)
    (case k__law_values => k_is)
    (case a__law_due => k_is)
    (case l__law_due => k_is)
    (case c__law_due => k_is)
    (case k__law_due => k_is)
    (case a_is_tuple_of => k_is)
    (case l_is_tuple_of => k_is)
    (case c_is_tuple_of => k_is)
    (case k_is_tuple_of => k_is)
    (case a_is_whole => k_is)
    (case l_is_whole => k_is)
    (case c_is_whole => k_is)
    (case k_is_whole => k_is)
    (case a_is_ratio => k_is)
    (case l_is_ratio => k_is)
    (case c_is_ratio => k_is)
    (case k_is_ratio => k_is)
    (case a_check_ratio => k_is)
    (case l_check_ratio => k_is)
    (case c_check_ratio => k_is)
    (case k_check_ratio => k_is)
    (case a_compare => k_is)
    (case l_compare => k_is)
    (case c_compare => k_is)
    (case k_compare => k_is)
    (case a_is_small_ratio => k_is)
    (case l_is_small_ratio => k_is)
    (case c_is_small_ratio => k_is)
    (case k_is_small_ratio => k_is)
    (case a_is_reading => k_is)
    (case l_is_reading => k_is)
    (case c_is_reading => k_is)
    (case k_is_reading => k_is)
    (case a_are_readings => k_is)
    (case l_are_readings => k_is)
    (case c_are_readings => k_is)
    (case k_are_readings => k_is)
    (case a_is_term => k_is)
    (case l_is_term => k_is)
    (case c_is_term => k_is)
    (case k_is_term => k_is)
    (case a_check_strike => k_is)
    (case l_check_strike => k_is)
    (case c_check_strike => k_is)
    (case k_check_strike => k_is)
    (case a_ratio => k_is)
    (case l_ratio => k_is)
    (case c_ratio => k_is)
    (case k_ratio => k_is)
    (case a_plus => k_is)
    (case l_plus => k_is)
    (case c_plus => k_is)
    (case k_plus => k_is)
    (case a_total => k_is)
    (case l_total => k_is)
    (case c_total => k_is)
    (case k_total => k_is)
    (case a_sums => k_is)
    (case l_sums => k_is)
    (case c_sums => k_is)
    (case k_sums => k_is)
    (case a_is_whole_in => k_is)
    (case l_is_whole_in => k_is)
    (case c_is_whole_in => k_is)
    (case k_is_whole_in => k_is)
    (case a_names_apart => k_is)
    (case l_names_apart => k_is)
    (case c_names_apart => k_is)
    (case k_names_apart => k_is)
    (case a_larger => k_is)
    (case l_larger => k_is)
    (case c_larger => k_is)
    (case k_larger => k_is)
    (case a_greatest_low => k_is)
    (case l_greatest_low => k_is)
    (case c_greatest_low => k_is)
    (case k_greatest_low => k_is)
    (case a_lesser => k_is)
    (case l_lesser => k_is)
    (case c_lesser => k_is)
    (case k_lesser => k_is)
    (case a_least_high => k_is)
    (case l_least_high => k_is)
    (case c_least_high => k_is)
    (case k_least_high => k_is)
    (case a_are_apart => k_is)
    (case l_are_apart => k_is)
    (case c_are_apart => k_is)
    (case k_are_apart => k_is)
    (case a_any_apart => k_is)
    (case l_any_apart => k_is)
    (case c_any_apart => k_is)
    (case k_any_apart => k_is)
    (case a_minus => k_is)
    (case l_minus => k_is)
    (case c_minus => k_is)
    (case k_minus => k_is)
    (case a_signed_bounds => k_is)
    (case l_signed_bounds => k_is)
    (case c_signed_bounds => k_is)
    (case k_signed_bounds => k_is)
    (case a_is_unsound => k_is)
    (case l_is_unsound => k_is)
    (case c_is_unsound => k_is)
    (case k_is_unsound => k_is)
    (case a_is_answer => k_is)
    (case l_is_answer => k_is)
    (case c_is_answer => k_is)
    (case k_is_answer => k_is)
    (case a_lies_in => k_is)
    (case l_lies_in => k_is)
    (case c_lies_in => k_is)
    (case k_lies_in => k_is)
    (case a_times => k_is)
    (case l_times => k_is)
    (case c_times => k_is)
    (case k_times => k_is)
    (case a_with_signs => k_is)
    (case l_with_signs => k_is)
    (case c_with_signs => k_is)
    (case k_with_signs => k_is)
    (case a_are_measures => k_is)
    (case l_are_measures => k_is)
    (case c_are_measures => k_is)
    (case k_are_measures => k_is)
    (case a_upholds_strike => k_is)
    (case l_upholds_strike => k_is)
    (case c_upholds_strike => k_is)
    (case k_upholds_strike => k_is)
    (case a__law_is_whole => k_is)
    (case l__law_is_whole => k_is)
    (case c__law_is_whole => k_is)
    (case k__law_is_whole => k_is)
    (case a__law_parts => k_is)
    (case l__law_parts => k_is)
    (case c__law_parts => k_is)
    (case k__law_parts => k_is)
    (case a__law_yes => k_is)
    (case l__law_yes => k_is)
    (case c__law_yes => k_is)
    (case k__law_yes => k_is)
    (case a__law_names_apart => k_is)
    (case l__law_names_apart => k_is)
    (case c__law_names_apart => k_is)
    (case k__law_names_apart => k_is)
    (case a__law_no => k_is)
    (case l__law_no => k_is)
    (case c__law_no => k_is)
    (case k__law_no => k_is)
    (case a__law_right => k_is)
    (case l__law_right => k_is)
    (case c__law_right => k_is)
    (case k__law_right => k_is)
    (case a_first_apart => k_is)
    (case l_first_apart => k_is)
    (case c_first_apart => k_is)
    (case k_first_apart => k_is)
    (case a_raised_values => k_is)
    (case l_raised_values => k_is)
    (case c_raised_values => k_is)
    (case k_raised_values => k_is)
    (case a_settle_strike => k_is)
    (case l_settle_strike => k_is)
    (case c_settle_strike => k_is)
    (case k_settle_strike => k_is)
    (case a__law_yes_papers => k_is)
    (case l__law_yes_papers => k_is)
    (case c__law_yes_papers => k_is)
    (case k__law_yes_papers => k_is)
    (case a__law_no_papers => k_is)
    (case l__law_no_papers => k_is)
    (case c__law_no_papers => k_is)
    (case k__law_no_papers => k_is)
    (case a_law => k_is)
    (case l_law => k_is)
    (case c_law => k_is)
    (case k_law => k_is)

