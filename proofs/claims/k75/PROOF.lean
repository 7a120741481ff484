import PyProof.Rows.All
import Wide.All
import OpenK.AllK
import Wide.FinOn
import HandS.ForMost
import HandS.ForExc
import HandS.Walk
import HandS.Wide
import HandS.IsInst
import HandS.RaiseMore
import HandS.ExcInit
import HandS.WordsExc
import HandS.Defaults
import KE.GoesMore
import KE.GoesEnum
import KE.KUnpackStar
import HandS.More
import PyProof.ReprRoads
import HandS.ExcIs
import HandS.ExcField
import HandS.ExcValue
import KE.KExcIs
import HandS.Head2
import HandS.HeadHook4
import HandS.HeadEnd
import HandS.EndBits
import HandS.MakeKwOnly
import HandS.Style
import PyProof.StrOps2
import KE.KIntText
import PyProof.StrLawsTight
import PyProof.Rows.StrItems
import PyProof.Rows.StrSplitAre
import PyProof.Rows.StrSplitJoin
import PySem.Challenge.RW_waysheld_k75_edits_read_or_refused
set_option Elab.async false
set_option linter.all false
section
set_option maxRecDepth 100000
set_option maxHeartbeats 4000000
/-! TdA: data as trees, the state of a mirror, and how both lie in the tracked heap. -/
namespace TD
open PySem L2

/-- a value that the kernel does not open -/
noncomputable def hide {α : Sort _} (a : α) : α := Classical.choose (⟨a, rfl⟩ : ∃ b, b = a)
theorem hide_eq {α : Sort _} (a : α) : hide a = a := Classical.choose_spec (⟨a, rfl⟩ : ∃ b, b = a)
/-- kinds of nodes; scr: a list that is locked (the script) -/
inductive Kd where
  | tup | lst | scr | dct | ins (c : Str) (fs : List Str)
  deriving DecidableEq

/-- a tree of data; ref n: the n-th mutable object of the mirror's own heap; dct: keys and values by turns -/
inductive D where
  | non | bl (b : Bool) | int (i : Int) | str (x : Str) | ref (n : Nat)
  | exn (c : Str) (fs : List Str) (ds : List D)
  | nd (k : Kd) (ds : List D)

/-- the world around the trees: what the top wrote, where classes stand, where the mirror's objects stand, what is frozen -/
structure Wd where
  K : PySem.W.Frag
  cl : Str → Option Addr
  io : List Addr
  F : Hp

/-- keys of dicts -/
def keyD : D → Option Key
  | .int i => some (.inl i)
  | .str x => some (.inr x)
  | _ => none
/-- flat items of tuple keys -/
def keyT : List D → Option (List Key)
  | [] => some []
  | d :: r => match keyD d, keyT r with
    | some k, some ks => some (k :: ks)
    | _, _ => none


/-- an exception's object that was caught -/
def exv (a C : Addr) (dd : Option Addr) : HO := .ext fun h => ∃ oe vs, h.get? a = some oe ∧ oe.cls = .ref C ∧ oe.dict = dd ∧ oe.data = .fields vs

mutual
def Rep (W : Wd) : D → V → Prop
  | .non, v => v = .non
  | .bl b, v => v = .bl b
  | .int i, v => v = .int i
  | .str x, v => v = .str x
  | .ref n, v => ∃ a, W.io[n]? = some a ∧ v = .ref a
  | .exn c fs ds, v => ∃ a C dd, v = .ref a ∧ W.cl c = some C ∧ W.F a = some (exv a C dd) ∧ ((ds = [] ∧ dd = none) ∨ ∃ dx xs, dd = some dx ∧ W.F dx = some (.xd (fs.zip xs)) ∧ xs.length = fs.length ∧ Reps W ds xs)
  | .nd k ds, v => ∃ a, v = .ref a ∧ match k with
    | .tup => ∃ xs, W.F a = some (.tup xs) ∧ Reps W ds xs
    | .lst => ∃ xs, W.F a = some (.lst xs) ∧ Reps W ds xs
    | .scr => ∃ o xs, W.F a = some (.frz o (.lst xs)) ∧ Reps W ds xs
    | .dct => (∃ kvs, W.F a = some (.dK kvs) ∧ DReps W ds kvs) ∨ (∃ kvs, W.F a = some (.dT kvs) ∧ TReps W ds kvs)
    | .ins c fs => ∃ C dx xs, W.cl c = some C ∧ W.F a = some (.ins C dx (fs.zip xs)) ∧ xs.length = fs.length ∧ Reps W ds xs
def Reps (W : Wd) : List D → List V → Prop
  | [], vs => vs = []
  | d :: ds, vs => ∃ v r, vs = v :: r ∧ Rep W d v ∧ Reps W ds r
def DReps (W : Wd) : List D → List (Key × V) → Prop
  | [], kvs => kvs = []
  | [_], _ => False
  | k :: d :: ds, kvs => ∃ key v r, kvs = (key, v) :: r ∧ keyD k = some key ∧ Rep W d v ∧ DReps W ds r
def TReps (W : Wd) : List D → List (List Key × V) → Prop
  | [], kvs => kvs = []
  | [_], _ => False
  | k :: d :: ds, kvs => ∃ ks key v r, kvs = (key, v) :: r ∧ k = .nd .tup ks ∧ keyT ks = some key ∧ Rep W d v ∧ TReps W ds r
end

/-- the node of a tree that may be changed, as it stands at an address (a tuple is never such) -/
def ORep (W : Wd) : D → HO → Prop
  | .nd .lst ds, o => ∃ xs, o = .lst xs ∧ Reps W ds xs
  | .nd .dct ds, o => (∃ kvs, o = .dK kvs ∧ DReps W ds kvs) ∨ (∃ kvs, o = .dT kvs ∧ TReps W ds kvs)
  | .nd (.ins c fs) ds, o => ∃ C dx xs, W.cl c = some C ∧ o = .ins C dx (fs.zip xs) ∧ xs.length = fs.length ∧ Reps W ds xs
  | _, _ => False

theorem Rep.of {W : Wd} {d : D} {o : HO} {a : Addr} (h : W.F a = some o) (r : ORep W d o) : Rep W d (.ref a) := by
  cases d with
  | nd k ds =>
    cases k with
    | tup => exact False.elim r
    | lst => obtain ⟨xs, rfl, r⟩ := r; exact ⟨a, rfl, xs, h, r⟩
    | scr => exact False.elim r
    | dct =>
      rcases r with ⟨kvs, rfl, r⟩ | ⟨kvs, rfl, r⟩
      · exact ⟨a, rfl, .inl ⟨kvs, h, r⟩⟩
      · exact ⟨a, rfl, .inr ⟨kvs, h, r⟩⟩
    | ins c fs => obtain ⟨C, dx, xs, c1, rfl, l, r⟩ := r; exact ⟨a, rfl, C, dx, xs, c1, h, l, r⟩
  | _ => exact False.elim r

/-- a world grows -/
structure Wd.le (W W' : Wd) : Prop where
  K : W'.K = W.K
  cl : W'.cl = W.cl
  io : ∀ (n : Nat) (a : Addr), W.io[n]? = some a → W'.io[n]? = some a
  F : Same W.F W'.F
theorem Wd.le.refl (W : Wd) : W.le W := ⟨rfl, rfl, fun _ _ h => h, fun _ _ h => h⟩
theorem Wd.le.trans {W W1 W2 : Wd} (a : W.le W1) (b : W1.le W2) : W.le W2 :=
  ⟨b.K.trans a.K, b.cl.trans a.cl, fun n x h => b.io n x (a.io n x h), fun c o h => b.F c o (a.F c o h)⟩

mutual
theorem Rep.mono {W W' : Wd} (l : W.le W') : ∀ {d : D} {v : V}, Rep W d v → Rep W' d v
  | .non, _, h => h
  | .bl _, _, h => h
  | .int _, _, h => h
  | .str _, _, h => h
  | .ref _, _, ⟨a, h, e⟩ => ⟨a, l.io _ _ h, e⟩
  | .exn _ _ ds, _, ⟨a, C, dd, e, c, h, r⟩ => ⟨a, C, dd, e, by rw [l.cl]; exact c, l.F _ _ h, r.elim .inl fun ⟨dx, xs, e1, e2, e3, e4⟩ => .inr ⟨dx, xs, e1, l.F _ _ e2, e3, Reps.mono l e4⟩⟩
  | .nd .tup ds, _, ⟨a, e, xs, h, r⟩ => ⟨a, e, xs, l.F _ _ h, Reps.mono l r⟩
  | .nd .lst ds, _, ⟨a, e, xs, h, r⟩ => ⟨a, e, xs, l.F _ _ h, Reps.mono l r⟩
  | .nd .scr ds, _, ⟨a, e, o, xs, h, r⟩ => ⟨a, e, o, xs, l.F _ _ h, Reps.mono l r⟩
  | .nd .dct ds, _, ⟨a, e, h⟩ => ⟨a, e, h.elim (fun ⟨kvs, q, r⟩ => .inl ⟨kvs, l.F _ _ q, DReps.mono l r⟩) fun ⟨kvs, q, r⟩ => .inr ⟨kvs, l.F _ _ q, TReps.mono l r⟩⟩
  | .nd (.ins c fs) ds, _, ⟨a, e, C, dx, xs, c1, h, z, r⟩ => ⟨a, e, C, dx, xs, by rw [l.cl]; exact c1, l.F _ _ h, z, Reps.mono l r⟩
theorem Reps.mono {W W' : Wd} (l : W.le W') : ∀ {ds : List D} {vs : List V}, Reps W ds vs → Reps W' ds vs
  | [], _, h => h
  | _ :: _, _, ⟨v, r, e, h, t⟩ => ⟨v, r, e, Rep.mono l h, Reps.mono l t⟩
theorem DReps.mono {W W' : Wd} (l : W.le W') : ∀ {ds : List D} {vs : List (Key × V)}, DReps W ds vs → DReps W' ds vs
  | [], _, h => h
  | [_], _, h => h
  | _ :: _ :: _, _, ⟨k, v, r, e, q, h, t⟩ => ⟨k, v, r, e, q, Rep.mono l h, DReps.mono l t⟩
theorem TReps.mono {W W' : Wd} (l : W.le W') : ∀ {ds : List D} {vs : List (List Key × V)}, TReps W ds vs → TReps W' ds vs
  | [], _, h => h
  | [_], _, h => h
  | _ :: _ :: _, _, ⟨ks, k, v, r, e, e1, q, h, t⟩ => ⟨ks, k, v, r, e, e1, q, Rep.mono l h, TReps.mono l t⟩
end
theorem ORep.mono {W W' : Wd} (l : W.le W') {d : D} {o : HO} (h : ORep W d o) : ORep W' d o := by
  cases d with
  | nd k ds =>
    cases k with
    | tup => exact h
    | lst => obtain ⟨xs, e, r⟩ := h; exact ⟨xs, e, r.mono l⟩
    | scr => exact h
    | dct =>
      rcases h with ⟨kvs, e, r⟩ | ⟨kvs, e, r⟩
      · exact .inl ⟨kvs, e, r.mono l⟩
      · exact .inr ⟨kvs, e, r.mono l⟩
    | ins c fs => obtain ⟨C, dx, xs, c1, e, z, r⟩ := h; exact ⟨C, dx, xs, by rw [l.cl]; exact c1, e, z, r.mono l⟩
  | _ => exact h
theorem Reps.length {W : Wd} : ∀ {ds : List D} {vs : List V}, Reps W ds vs → vs.length = ds.length
  | [], vs, h => by have e : vs = [] := h; rw [e]; rfl
  | _ :: ds, _, ⟨v, r, e, h, t⟩ => by rw [e, List.length_cons, List.length_cons, Reps.length (ds := ds) t]
theorem Reps.get {W : Wd} : ∀ {ds : List D} {vs : List V} {i : Nat} {d : D}, Reps W ds vs → ds[i]? = some d → ∃ v, vs[i]? = some v ∧ Rep W d v
  | [], _, _, _, _, h => by simp at h
  | _ :: _, _, 0, _, ⟨v, r, e, h, t⟩, q => by
    have e2 := Option.some.inj q
    subst e2 e
    exact ⟨v, rfl, h⟩
  | _ :: _, _, i + 1, _, ⟨v, r, e, h, t⟩, q => by
    subst e
    exact Reps.get (i := i) t q
theorem Reps.append {W : Wd} : ∀ {ds es : List D} {vs us : List V}, Reps W ds vs → Reps W es us → Reps W (ds ++ es) (vs ++ us)
  | [], _, vs, _, h, q => by have e : vs = [] := h; rw [e]; exact q
  | _ :: _, _, _, _, ⟨v, r, e, h, t⟩, q => by subst e; exact ⟨v, _, rfl, h, Reps.append t q⟩
/-! ### the mirror's state -/
/-- a local name: no value; a frozen tree; a node of one's own (lk: lent, while it is walked) -/
inductive Sl where
  | un | fz (d : D) | own (lk : Bool) (d : D)
/-- the local names, the mutable objects -/
structure S where
  r : List Sl
  h : List D
/-- an exception: its class, its fields -/
structure Xn where
  c : Str
  fs : List Str
  ds : List D
/-- an expression's end -/
inductive Ou (α : Type) where
  | ok (a : α) (s : S) | ex (e : Xn) (s : S) | bad
/-- a statement's end -/
inductive OutS where
  | nx (s : S) | rt (d : D) (fr : Bool) (s : S) | bk (s : S) | ct (s : S) | ex (e : Xn) (s : S) | bad
/-- a call's end -/
inductive OutF where
  | ok (d : D) (fr : Bool) (h : List D) | ex (e : Xn) (h : List D) | bad

def Own (s : S) (t : St) (i : Nat) (a : Addr) : Prop := (∃ lk d, s.r[i]? = some (.own lk d)) ∧ t[i]? = some (some (.ref a))

/-- the mutable objects stand at W.io -/
structure HRel (W : Wd) (h : List D) (H : Hp) : Prop where
  same : Same W.F H
  nd : W.io.Nodup
  len : W.io.length = h.length
  at_ : ∀ (n : Nat) (d : D), h[n]? = some d → ∃ a o, W.io[n]? = some a ∧ W.F a = none ∧ H a = some o ∧ ORep W d o
structure Rel (W : Wd) (s : S) (t : St) (H : Hp) : Prop where
  hr : HRel W s.h H
  len : s.r.length = t.length
  fz : ∀ (i : Nat) (d : D), s.r[i]? = some (.fz d) → ∃ v, t[i]? = some (some v) ∧ Rep W d v
  own : ∀ (i : Nat) (lk : Bool) (d : D), s.r[i]? = some (.own lk d) → ∃ a o, t[i]? = some (some (.ref a)) ∧ W.F a = none ∧ a ∉ W.io ∧ H a = some o ∧ ORep W d o
  one : ∀ i j a, Own s t i a → Own s t j a → i = j

/-- growth from one state to a later one; O, O': the nodes of one's own -/
structure Step (W : Wd) (O : Addr → Prop) (H : Hp) (W' : Wd) (O' : Addr → Prop) (H' : Hp) : Prop where
  le : W.le W'
  keep : ∀ a o, H a = some o → a ∉ W.io → ¬ O a → H' a = some o
  dom : ∀ a, H a ≠ none → H' a ≠ none
  newF : ∀ a, W'.F a ≠ none → W.F a ≠ none ∨ H a = none ∨ O a
  newI : ∀ a, a ∈ W'.io → a ∈ W.io ∨ H a = none ∨ O a
  newO : ∀ a, O' a → O a ∨ H a = none
theorem Step.refl {W : Wd} {O : Addr → Prop} {H : Hp} : Step W O H W O H :=
  ⟨.refl W, fun _ _ h _ _ => h, fun _ h => h, fun _ h => .inl h, fun _ h => .inl h, fun _ h => .inl h⟩
theorem Step.back {W W' : Wd} {O O' : Addr → Prop} {H H' : Hp} (s : Step W O H W' O' H') {a : Addr} (h : H' a = none) : H a = none := by
  cases e : H a with
  | none => rfl
  | some o => exact absurd h (s.dom a (by rw [e]; exact fun z => nomatch z))
theorem Step.trans {W W1 W2 : Wd} {O O1 O2 : Addr → Prop} {H H1 H2 : Hp} (a : Step W O H W1 O1 H1) (b : Step W1 O1 H1 W2 O2 H2) : Step W O H W2 O2 H2 where
  le := a.le.trans b.le
  keep := fun x o h hi ho => b.keep x o (a.keep x o h hi ho) (fun z => (a.newI x z).elim hi fun q => q.elim (fun q => by rw [h] at q; cases q) ho) fun z => (a.newO x z).elim ho fun q => by rw [h] at q; cases q
  dom := fun x h => b.dom x (a.dom x h)
  newF := fun x h => (b.newF x h).elim (a.newF x) fun q => q.elim (fun q => .inr (.inl (a.back q))) fun q => (a.newO x q).elim (fun z => .inr (.inr z)) fun z => .inr (.inl z)
  newI := fun x h => (b.newI x h).elim (a.newI x) fun q => q.elim (fun q => .inr (.inl (a.back q))) fun q => (a.newO x q).elim (fun z => .inr (.inr z)) fun z => .inr (.inl z)
  newO := fun x h => (b.newO x h).elim (a.newO x) fun q => .inr (a.back q)
/-- with other sets of one's own -/
theorem Step.own {W W' : Wd} {O O1 O' O2 : Addr → Prop} {H H' : Hp} (s : Step W O H W' O' H') (h1 : ∀ a, O a → O1 a) (h2 : ∀ a, O2 a → O1 a ∨ H a = none) : Step W O1 H W' O2 H' :=
  ⟨s.le, fun a o h hi ho => s.keep a o h hi fun z => ho (h1 a z), s.dom, fun a h => (s.newF a h).imp id fun q => q.imp id (h1 a), fun a h => (s.newI a h).imp id fun q => q.imp id (h1 a), h2⟩

/-- a value: frozen, or a node that nobody has; N0: it is new, or was one's own -/
def RepV (W : Wd) (O N0 : Addr → Prop) (H : Hp) (d : D) (fr : Bool) (v : V) : Prop :=
  if fr = true then ∃ a o, v = .ref a ∧ N0 a ∧ W.F a = none ∧ a ∉ W.io ∧ ¬ O a ∧ H a = some o ∧ ORep W d o else Rep W d v
/-- an exception with its fields -/
def RepX (W : Wd) (e : Xn) (c : Value) (dd : Option Addr) : Prop :=
  ∃ C, c = .ref C ∧ W.cl e.c = some C ∧ ((e.ds = [] ∧ dd = none) ∨ ∃ dx xs, dd = some dx ∧ W.F dx = some (.xd (e.fs.zip xs)) ∧ xs.length = e.fs.length ∧ Reps W e.ds xs)

abbrev Ow (s : S) (t : St) : Addr → Prop := fun a => ∃ i, Own s t i a
/-- lent names stay -/
def Lent (s s' : S) (t t' : St) : Prop := ∀ (i : Nat) (d : D), s.r[i]? = some (.own true d) → s'.r[i]? = some (.own true d) ∧ t'[i]? = t[i]?

/-- how a mirror's value lies: by the world, the state, the names' values, what is new, the heap -/
structure Rk (α β : Type) where
  rp : Wd → S → St → (Addr → Prop) → Hp → α → β → Prop
  base : ∀ {W : Wd} {s : S} {t : St} {N0 N1 : Addr → Prop} {H : Hp} {a : α} {b : β}, (∀ x, N1 x → N0 x) → rp W s t N1 H a b → rp W s t N0 H a b
/-- new by a state -/
abbrev New (s : S) (t : St) (H : Hp) : Addr → Prop := fun a => H a = none ∨ Ow s t a
/-- what is to be shown behind an expression -/
def Po {α β : Type} (k : Rk α β) (W : Wd) (s : S) (t : St) (H : Hp) (Wx : WX) (Q : β → Hp → Prop) : Ou α → Prop
  | .ok a s' => ∀ b W' H', Step W (Ow s t) H W' (Ow s' t) H' → Lent s s' t t → Rel W' s' t H' → k.rp W' s' t (New s t H) H' a b → Q b H'
  | .ex e s' => ∀ c dd W' H', Step W (Ow s t) H W' (Ow s' t) H' → Lent s s' t t → Rel W' s' t H' → RepX W' e c dd → Wx c dd t H'
  | .bad => False
/-- where a class of one's own stands -/
def clOf (mg : Str → Option Value) (c : Str) : Option Addr := match mg c with
  | some (.ref C) => some C
  | _ => none
/-- the world is that of the top -/
structure Wd.of (W : Wd) (K : PySem.W.Frag) (mg : Str → Option Value) : Prop where
  K : W.K = K
  cl : W.cl = clOf mg
theorem Wd.of.le {W W' : Wd} {K : PySem.W.Frag} {mg : Str → Option Value} (o : W.of K mg) (l : W.le W') : W'.of K mg := ⟨l.K.trans o.K, l.cl.trans o.cl⟩
/-- a mirror as a reading -/
def tD {α β : Type} (k : Rk α β) (K : PySem.W.Frag) (mg : Str → Option Value) (Wx : WX) (f : S → Ou α) : St → Hp → (β → Hp → Prop) → Prop :=
  fun t H Q => ∃ W s, W.of K mg ∧ Rel W s t H ∧ Po k W s t H Wx Q (f s)
/-- an expression does what its mirror does -/
def PD {α : Type} (k : Rk α V) (X : Cx) (e : Expr) (f : S → Ou α) : Prop := ∀ Wx, Takes X Wx → PE X e (tD k X.K X.mg Wx f)
def PAD {α : Type} (k : Rk α (List V)) (X : Cx) (es : List Expr) (f : S → Ou α) : Prop := ∀ Wx, Takes X Wx → PA X es (tD k X.K X.mg Wx f)
def PTD {α : Type} (k : Rk α Bool) (X : Cx) (e : Expr) (f : S → Ou α) : Prop := ∀ Wx, Takes X Wx → PT X e (tD k X.K X.mg Wx f)

theorem PE.imp {X : Cx} {e : Expr} {t t' : TE} (h : PE X e t) (i : ∀ s H Q, t' s H Q → t s H Q) : PE X e t' :=
  ⟨fun pins s σ H Q I q => h.run pins s σ H Q I (i _ _ _ q)⟩
end TD

end
section
set_option maxRecDepth 100000
set_option maxHeartbeats 4000000
/-! TdB: binding, freezing, operands. -/
namespace TD
open PySem L2

theorem RepV.ofT {W : Wd} {O N0 : Addr → Prop} {H : Hp} {d : D} {v : V} (h : RepV W O N0 H d true v) : ∃ a o, v = .ref a ∧ N0 a ∧ W.F a = none ∧ a ∉ W.io ∧ ¬ O a ∧ H a = some o ∧ ORep W d o := by
  unfold RepV at h
  rw [if_pos rfl] at h
  exact h
theorem RepV.ofF {W : Wd} {O N0 : Addr → Prop} {H : Hp} {d : D} {v : V} (h : RepV W O N0 H d false v) : Rep W d v := by
  unfold RepV at h
  rw [if_neg Bool.false_ne_true] at h
  exact h
theorem RepV.mkF {W : Wd} {O N0 : Addr → Prop} {H : Hp} {d : D} {v : V} (h : Rep W d v) : RepV W O N0 H d false v := by
  unfold RepV
  rw [if_neg Bool.false_ne_true]
  exact h
theorem RepV.mkT {W : Wd} {O N0 : Addr → Prop} {H : Hp} {d : D} {v : V} (h : ∃ a o, v = .ref a ∧ N0 a ∧ W.F a = none ∧ a ∉ W.io ∧ ¬ O a ∧ H a = some o ∧ ORep W d o) : RepV W O N0 H d true v := by
  unfold RepV
  rw [if_pos rfl]
  exact h
theorem RepV.base {W : Wd} {O N0 N1 : Addr → Prop} {H : Hp} {d : D} {fr : Bool} {v : V} (b : ∀ a, N1 a → N0 a) (h : RepV W O N1 H d fr v) : RepV W O N0 H d fr v := by
  cases fr with
  | false => exact .mkF h.ofF
  | true =>
    obtain ⟨a, o, e, h0, r⟩ := h.ofT
    exact .mkT ⟨a, o, e, b a h0, r⟩

theorem Lent.refl {s : S} {t : St} : Lent s s t t := fun _ _ h => ⟨h, rfl⟩
theorem Lent.trans {s s1 s2 : S} {t t1 t2 : St} (a : Lent s s1 t t1) (b : Lent s1 s2 t1 t2) : Lent s s2 t t2 := fun i d h =>
  ⟨(b i d (a i d h).1).1, ((b i d (a i d h).1).2).trans (a i d h).2⟩

/-- from a later state -/
theorem Po.from {α β : Type} {k : Rk α β} {W W1 : Wd} {s s1 : S} {t : St} {H H1 : Hp} {Wx : WX} {Q : β → Hp → Prop} {out : Ou α} (st : Step W (Ow s t) H W1 (Ow s1 t) H1) (ln : Lent s s1 t t) (h : Po k W s t H Wx Q out) : Po k W1 s1 t H1 Wx Q out := by
  cases out with
  | ok a s' => exact fun b W' H' st2 ln2 R rv => h b W' H' (st.trans st2) (ln.trans ln2) R (k.base (fun x z => z.elim (fun z => .inl (st.back z)) fun z => (st.newO x z).elim .inr .inl) rv)
  | ex e s' => exact fun c dd W' H' st2 ln2 R rx => h c dd W' H' (st.trans st2) (ln.trans ln2) R rx
  | bad => exact h

/-- the world with one more frozen node -/
abbrev Wd.fr (W : Wd) (a : Addr) (o : HO) : Wd := { W with F := upd W.F a o }
theorem Wd.le_fr {W : Wd} {a : Addr} {o : HO} (h : W.F a = none) : W.le (W.fr a o) :=
  ⟨rfl, rfl, fun _ _ h => h, fun b x q => (upd_ne (ne_of_none q h)).trans q⟩

theorem Rel.freeze {W : Wd} {s : S} {t : St} {H : Hp} {a : Addr} {o : HO} (R : Rel W s t H) (hF : W.F a = none) (hi : a ∉ W.io) (hO : ¬ Ow s t a) (hH : H a = some o) : Rel (W.fr a o) s t H where
  hr := ⟨fun b x q => by
      by_cases e : b = a
      · subst e
        rw [show (W.fr b o).F b = some o from upd_same] at q
        cases q
        exact hH
      · rw [show (W.fr a o).F b = W.F b from upd_ne e] at q
        exact R.hr.same b x q, R.hr.nd, R.hr.len, fun n d q => by
      obtain ⟨b, u, h1, h2, h3, h4⟩ := R.hr.at_ n d q
      have e : b ≠ a := fun e => hi (e ▸ List.mem_of_getElem? h1)
      exact ⟨b, u, h1, (upd_ne e).trans h2, h3, h4.mono (Wd.le_fr hF)⟩⟩
  len := R.len
  fz := fun i d q => let ⟨v, h1, h2⟩ := R.fz i d q; ⟨v, h1, h2.mono (Wd.le_fr hF)⟩
  own := fun i lk d q => by
    obtain ⟨b, u, h1, h2, h3, h4, h5⟩ := R.own i lk d q
    have e : b ≠ a := fun e => hO ⟨i, ⟨lk, d, q⟩, e ▸ h1⟩
    exact ⟨b, u, h1, (upd_ne e).trans h2, h3, h4, h5.mono (Wd.le_fr hF)⟩
  one := R.one

/-- a value is frozen where it isn't yet -/
theorem frozen {W W0 : Wd} {s : S} {O0 : Addr → Prop} {t : St} {H0 H : Hp} {d : D} {fr : Bool} {v : V} (st : Step W0 O0 H0 W (Ow s t) H) (R : Rel W s t H) (rv : RepV W (Ow s t) (fun a => H0 a = none ∨ O0 a) H d fr v) :
    ∃ W', Step W0 O0 H0 W' (Ow s t) H ∧ Rel W' s t H ∧ Rep W' d v ∧ W.le W' := by
  cases fr with
  | false => exact ⟨W, st, R, rv.ofF, .refl W⟩
  | true =>
    obtain ⟨a, o, rfl, h0, hF, hi, hO, hH, ro⟩ := rv.ofT
    have l : W.le (W.fr a o) := Wd.le_fr hF
    refine ⟨W.fr a o, ⟨st.le.trans l, st.keep, st.dom, fun b hb => ?_, st.newI, st.newO⟩, R.freeze hF hi hO hH, .of upd_same (ro.mono l), l⟩
    by_cases e : b = a
    · subst e
      exact .inr h0
    · exact st.newF b (fun z => hb ((upd_ne e).trans z))

def Ou.bind {α β : Type} (o : Ou α) (k : α → S → Ou β) : Ou β :=
  match o with
  | .ok a s => k a s
  | .ex e s => .ex e s
  | .bad => .bad
@[simp] theorem Ou.bind_ok {α β : Type} (a : α) (s : S) (k : α → S → Ou β) : (Ou.ok a s).bind k = k a s := id rfl
@[simp] theorem Ou.bind_ex {α β : Type} (e : Xn) (s : S) (k : α → S → Ou β) : (Ou.ex e s).bind k = .ex e s := id rfl
@[simp] theorem Ou.bind_bad {α β : Type} (k : α → S → Ou β) : (Ou.bad : Ou α).bind k = .bad := id rfl

/-! ### the kinds of values -/
/-- a value that may be new -/
def kV : Rk (D × Bool) V := ⟨fun W s t N0 H a v => RepV W (Ow s t) N0 H a.1 a.2 v, fun b h => h.base b⟩
theorem kV_F {W : Wd} {s : S} {t : St} {N0 : Addr → Prop} {H : Hp} {d : D} {v : V} (h : Rep W d v) : kV.rp W s t N0 H (d, false) v := RepV.mkF (O := Ow s t) (N0 := N0) (H := H) h
theorem kV_T {W : Wd} {s : S} {t : St} {N0 : Addr → Prop} {H : Hp} {d : D} {v : V} (h : ∃ a o, v = .ref a ∧ N0 a ∧ W.F a = none ∧ a ∉ W.io ∧ ¬ Ow s t a ∧ H a = some o ∧ ORep W d o) : kV.rp W s t N0 H (d, true) v := RepV.mkT (O := Ow s t) (N0 := N0) (H := H) h
theorem kV_flat {W : Wd} {s : S} {t : St} {N0 : Addr → Prop} {H : Hp} {d : D} {fr : Bool} {v : V} (h : kV.rp W s t N0 H (d, fr) v) (hd : ∀ o, ¬ ORep W d o) : Rep W d v := by
  cases fr with
  | false => exact RepV.ofF (O := Ow s t) (N0 := N0) (H := H) h
  | true =>
    obtain ⟨a, o, _, _, _, _, _, _, z⟩ := RepV.ofT (O := Ow s t) (N0 := N0) (H := H) h
    exact absurd z (hd o)
/-- a frozen value -/
def kF : Rk D V := ⟨fun W _ _ _ _ d v => Rep W d v, fun _ h => h⟩
def kFs : Rk (List D) (List V) := ⟨fun W _ _ _ _ ds vs => Reps W ds vs, fun _ h => h⟩
def kB : Rk Bool Bool := ⟨fun _ _ _ _ _ a b => a = b, fun _ h => h⟩
/-- an operand: a frozen value, or a name's own node, as it stands -/
inductive Ar where
  | v (d : D) | sl (i : Nat)
def RepA (W : Wd) (t : St) : Ar → V → Prop
  | .v d, v => Rep W d v
  | .sl i, v => t[i]? = some (some v)
def kA : Rk Ar V := ⟨fun W _ t _ _ x v => RepA W t x v, fun _ h => h⟩
inductive RepAs (W : Wd) (t : St) : List Ar → List V → Prop
  | nil : RepAs W t [] []
  | cons {x : Ar} {v : V} {xs : List Ar} {vs : List V} : RepA W t x v → RepAs W t xs vs → RepAs W t (x :: xs) (v :: vs)
def kAs : Rk (List Ar) (List V) := ⟨fun W _ t _ _ xs vs => RepAs W t xs vs, fun _ h => h⟩
theorem RepA.mono {W W' : Wd} {t : St} {x : Ar} {v : V} (l : W.le W') (h : RepA W t x v) : RepA W' t x v := by
  cases x with
  | v d => exact Rep.mono l h
  | sl i => exact h
theorem RepAs.mono {W W' : Wd} {t : St} {xs : List Ar} {vs : List V} (l : W.le W') (h : RepAs W t xs vs) : RepAs W' t xs vs := by
  induction h with
  | nil => exact .nil
  | cons a _ ih => exact .cons (a.mono l) ih

section
variable {K : PySem.W.Frag} {mg : Str → Option Value} {Wx : WX} {α β γ δ : Type}
/-- THE BIND: the first part, then the rest from where it ended -/
theorem Po.bind {k : Rk α β} {k2 : Rk γ δ} {W : Wd} {s : S} {t : St} {H : Hp} {Q : δ → Hp → Prop} {o : Ou α} {f : α → S → Ou γ} {R2 : β → Hp → Prop} (h : Po k2 W s t H Wx Q (o.bind f))
    (i : ∀ a b s1 W1 H1, Step W (Ow s t) H W1 (Ow s1 t) H1 → Lent s s1 t t → Rel W1 s1 t H1 → k.rp W1 s1 t (New s t H) H1 a b → Po k2 W1 s1 t H1 Wx Q (f a s1) → R2 b H1) : Po k W s t H Wx R2 o := by
  cases o with
  | ok a s1 => exact fun b W' H' st ln R rp => i a b s1 W' H' st ln R rp (Po.from (out := f a s1) st ln h)
  | ex e s1 => exact h
  | bad => exact h
theorem tD.mk {k : Rk α β} {W : Wd} {s : S} {t : St} {H : Hp} {Q : β → Hp → Prop} {f : S → Ou α} (o : W.of K mg) (R : Rel W s t H) (h : Po k W s t H Wx Q (f s)) : tD k K mg Wx f t H Q := ⟨W, s, o, R, h⟩
/-- an expression without any effect -/
theorem Po.pure {k : Rk α β} {W : Wd} {s : S} {t : St} {H : Hp} {Q : β → Hp → Prop} {a : α} {b : β} (h : Po k W s t H Wx Q (.ok a s)) (R : Rel W s t H) (r : k.rp W s t (New s t H) H a b) : Q b H := h b W H .refl .refl R r

/-- the value frozen -/
def frz (o : Ou (D × Bool)) : Ou D := match o with
  | .ok a s => .ok a.1 s
  | .ex e s => .ex e s
  | .bad => .bad
@[simp] theorem frz_ok (a : D × Bool) (s : S) : frz (.ok a s) = .ok a.1 s := id rfl
@[simp] theorem frz_ex (e : Xn) (s : S) : frz (.ex e s) = .ex e s := id rfl
@[simp] theorem frz_bad : frz .bad = .bad := id rfl
theorem PD.frz {X : Cx} {e : Expr} {f : S → Ou (D × Bool)} (h : PD kV X e f) : PD kF X e (fun s => TD.frz (f s)) := fun Wx tk => PE.imp (h Wx tk) fun t H Q ⟨W, s, o, R, q⟩ => by
  refine ⟨W, s, o, R, ?_⟩
  dsimp only at q
  cases e : f s with
  | ok a s1 =>
    rw [e] at q
    intro v W' H' st ln R' rv
    obtain ⟨W1, st1, R1, rp, _⟩ := frozen st R' (show RepV _ _ _ _ a.1 a.2 v from rv)
    exact q v W1 H' st1 ln R1 rp
  | ex x s1 => rw [e] at q; exact q
  | bad => rw [e] at q; exact q
/-- a frozen value as an operand -/
def toA (o : Ou D) : Ou Ar := match o with
  | .ok a s => .ok (.v a) s
  | .ex e s => .ex e s
  | .bad => .bad
@[simp] theorem toA_ok (a : D) (s : S) : toA (.ok a s) = .ok (.v a) s := id rfl
@[simp] theorem toA_ex (e : Xn) (s : S) : toA (.ex e s) = .ex e s := id rfl
@[simp] theorem toA_bad : toA .bad = .bad := id rfl
theorem PD.toA {X : Cx} {e : Expr} {f : S → Ou D} (h : PD kF X e f) : PD kA X e (fun s => TD.toA (f s)) := fun Wx tk => PE.imp (h Wx tk) fun t H Q ⟨W, s, o, R, q⟩ => by
  refine ⟨W, s, o, R, ?_⟩
  dsimp only at q
  cases e : f s with
  | ok a s1 => rw [e] at q; exact q
  | ex x s1 => rw [e] at q; exact q
  | bad => rw [e] at q; exact q
/-- a frozen value as one that may be new -/
def toV (o : Ou D) : Ou (D × Bool) := match o with
  | .ok a s => .ok (a, false) s
  | .ex e s => .ex e s
  | .bad => .bad
@[simp] theorem toV_ok (a : D) (s : S) : toV (.ok a s) = .ok (a, false) s := id rfl
@[simp] theorem toV_ex (e : Xn) (s : S) : toV (.ex e s) = .ex e s := id rfl
@[simp] theorem toV_bad : toV .bad = .bad := id rfl
theorem PD.toV {X : Cx} {e : Expr} {f : S → Ou D} (h : PD kF X e f) : PD kV X e (fun s => TD.toV (f s)) := fun Wx tk => PE.imp (h Wx tk) fun t H Q ⟨W, s, o, R, q⟩ => by
  refine ⟨W, s, o, R, ?_⟩
  dsimp only at q
  cases e : f s with
  | ok a s1 => rw [e] at q; exact fun v W' H' st ln R' rv => q v W' H' st ln R' (kV_F (show Rep W' a v from rv))
  | ex x s1 => rw [e] at q; exact q
  | bad => rw [e] at q; exact q
end
end TD

end
section
set_option maxRecDepth 100000
set_option maxHeartbeats 4000000
/-! TdC: names, constants, operators, displays. -/
namespace TD
open PySem L2

/-! ### names and constants -/
def S.set (s : S) (i : Nat) (x : Sl) : S := { s with r := s.r.set i x }
/-- a name read as a value: a node of its own is frozen -/
def eVar (i : Nat) : S → Ou D := fun s => match s.r[i]? with
  | some (.fz d) => .ok d s
  | some (.own false d) => .ok d (s.set i (.fz d))
  | _ => .bad
/-- a name read as an operand -/
def aVar (i : Nat) : S → Ou Ar := fun s => match s.r[i]? with
  | some (.fz d) => .ok (.v d) s
  | some (.own _ _) => .ok (.sl i) s
  | _ => .bad
/-- a name moved out: its node is new to whoever takes it -/
def vVar (i : Nat) : S → Ou (D × Bool) := fun s => match s.r[i]? with
  | some (.fz d) => .ok (d, false) s
  | some (.own false d) => .ok (d, true) (s.set i .un)
  | _ => .bad
def eC {α : Type} (d : α) : S → Ou α := fun s => .ok d s

theorem un_ne : ∀ lk d, Sl.un ≠ .own lk d := fun _ _ z => nomatch z
theorem fz_ne {d : D} : ∀ lk d', Sl.fz d ≠ .own lk d' := fun _ _ z => nomatch z
theorem own_set {s : S} {t : St} {i j : Nat} {x : Sl} {a : Addr} (hx : ∀ lk d, x ≠ .own lk d) (h : Own (s.set i x) t j a) : Own s t j a ∧ j ≠ i := by
  obtain ⟨⟨lk, d, h1⟩, h2⟩ := h
  have e : (s.r.set i x)[j]? = some (.own lk d) := h1
  by_cases hj : j = i
  · subst hj
    by_cases hl : j < s.r.length
    · rw [List.getElem?_set_self hl] at e
      exact absurd (Option.some.inj e) (hx lk d)
    · rw [List.getElem?_eq_none (by rw [List.length_set]; omega)] at e
      cases e
  · rw [List.getElem?_set_ne (Ne.symm hj)] at e
    exact ⟨⟨⟨lk, d, e⟩, h2⟩, hj⟩

/-- a name's own node is let go -/
theorem Rel.unown {W : Wd} {s : S} {t : St} {H : Hp} {i : Nat} {x : Sl} (R : Rel W s t H) (hx : ∀ lk d, x ≠ .own lk d) (hf : ∀ d, x = .fz d → ∃ v, t[i]? = some (some v) ∧ Rep W d v) : Rel W (s.set i x) t H where
  hr := R.hr
  len := (List.length_set ..).trans R.len
  fz := fun j d q => by
    have q : (s.r.set i x)[j]? = some (.fz d) := q
    by_cases hj : j = i
    · subst hj
      by_cases hl : j < s.r.length
      · rw [List.getElem?_set_self hl] at q
        exact hf d (Option.some.inj q)
      · rw [List.getElem?_eq_none (by rw [List.length_set]; omega)] at q
        cases q
    · rw [List.getElem?_set_ne (Ne.symm hj)] at q
      exact R.fz j d q
  own := fun j lk d q => by
    have q : (s.r.set i x)[j]? = some (.own lk d) := q
    by_cases hj : j = i
    · subst hj
      by_cases hl : j < s.r.length
      · rw [List.getElem?_set_self hl] at q
        exact absurd (Option.some.inj q) (hx lk d)
      · rw [List.getElem?_eq_none (by rw [List.length_set]; omega)] at q
        cases q
    · rw [List.getElem?_set_ne (Ne.symm hj)] at q
      exact R.own j lk d q
  one := fun j k a h1 h2 => R.one j k a (own_set hx h1).1 (own_set hx h2).1
theorem lent_set {s : S} {t : St} {i : Nat} {x : Sl} (h : ∀ d, s.r[i]? ≠ some (.own true d)) : Lent s (s.set i x) t t := fun j d q => by
  refine ⟨?_, rfl⟩
  have hj : j ≠ i := fun e => h d (e ▸ q)
  show (s.r.set i x)[j]? = _
  rw [List.getElem?_set_ne (Ne.symm hj)]
  exact q

section
variable {X : Cx} {α β γ : Type}
theorem PD.of_var {i : Nat} {x : Str} {pos : Pos} {k : Rk α V} {f : S → Ou α} (hN : X.N[i]? = some x) (hv : Vis X.env.scope x) (hd : (x == ("__debug__" : Str)) = false) (hcd : (x == ("__classdict__" : Str)) = false)
    (h : ∀ W s t H Wx Q, Rel W s t H → Po k W s t H Wx Q (f s) → ∃ v, t[i]? = some (some v) ∧ Q v H) : PD k X (.Name x pos) f := fun Wx tk =>
  PE.imp (pe_var hN hv hd hcd) fun t H Q ⟨W, s, o, R, q⟩ => h W s t H Wx Q R q
theorem po_aVar {i : Nat} : ∀ W s t H Wx (Q : VK), Rel W s t H → Po kA W s t H Wx Q (aVar i s) → ∃ v, t[i]? = some (some v) ∧ Q v H := by
  intro W s t H Wx Q R q
  unfold aVar at q
  split at q
  · rename_i d e
    obtain ⟨v, h1, h2⟩ := R.fz i d e
    exact ⟨v, h1, q v W H .refl .refl R h2⟩
  · rename_i lk d e
    obtain ⟨a, o, h1, _⟩ := R.own i lk d e
    exact ⟨_, h1, q _ W H .refl .refl R h1⟩
  · exact False.elim q
theorem po_eVar {i : Nat} : ∀ W s t H Wx (Q : VK), Rel W s t H → Po kF W s t H Wx Q (eVar i s) → ∃ v, t[i]? = some (some v) ∧ Q v H := by
  intro W s t H Wx Q R q
  unfold eVar at q
  split at q
  · rename_i d e
    obtain ⟨v, h1, h2⟩ := R.fz i d e
    exact ⟨v, h1, q v W H .refl .refl R h2⟩
  · rename_i d e
    obtain ⟨a, o, h1, hF, hi, hH, ro⟩ := R.own i false d e
    have ow : Own s t i a := ⟨⟨false, d, e⟩, h1⟩
    have nx : ∀ lk d', Sl.fz d ≠ .own lk d' := fz_ne
    have l : W.le (W.fr a o) := Wd.le_fr hF
    have n2 : ¬ Ow (s.set i .un) t a := fun ⟨j, z⟩ => by
      obtain ⟨z1, z2⟩ := own_set un_ne z
      exact z2 (R.one j i a z1 ow)
    have R1 : Rel (W.fr a o) (s.set i .un) t H := (R.unown un_ne fun _ z => nomatch z).freeze hF hi n2 hH
    have rp : Rep (W.fr a o) d (.ref a) := .of upd_same (ro.mono l)
    have R2 : Rel (W.fr a o) (s.set i (.fz d)) t H := by
      have z := R1.unown (i := i) (x := .fz d) nx fun d' q' => by cases q'; exact ⟨_, h1, rp⟩
      have es : (s.set i .un).set i (.fz d) = s.set i (.fz d) := by unfold S.set; simp
      rw [es] at z
      exact z
    refine ⟨_, h1, q _ (W.fr a o) H ⟨l, fun _ _ h _ _ => h, fun _ h => h, fun b hb => ?_, fun _ h => .inl h, fun b ⟨j, hb⟩ => .inl ⟨j, (own_set nx hb).1⟩⟩ (lent_set fun d' z => by rw [e] at z; cases z) R2 rp⟩
    by_cases eb : b = a
    · exact .inr (.inr ⟨i, eb ▸ ow⟩)
    · exact .inl fun z => hb ((upd_ne eb).trans z)
  · exact False.elim q
theorem po_vVar {i : Nat} : ∀ W s t H Wx (Q : VK), Rel W s t H → Po kV W s t H Wx Q (vVar i s) → ∃ v, t[i]? = some (some v) ∧ Q v H := by
  intro W s t H Wx Q R q
  unfold vVar at q
  split at q
  · rename_i d e
    obtain ⟨v, h1, h2⟩ := R.fz i d e
    exact ⟨v, h1, q v W H .refl .refl R (kV_F h2)⟩
  · rename_i d e
    obtain ⟨a, o, h1, hF, hi, hH, ro⟩ := R.own i false d e
    have ow : Own s t i a := ⟨⟨false, d, e⟩, h1⟩
    have nx : ∀ lk d', Sl.un ≠ .own lk d' := un_ne
    have n2 : ¬ Ow (s.set i .un) t a := fun ⟨j, z⟩ => by
      obtain ⟨z1, z2⟩ := own_set nx z
      exact z2 (R.one j i a z1 ow)
    exact ⟨_, h1, q _ W H ⟨.refl W, fun _ _ h _ _ => h, fun _ h => h, fun _ h => .inl h, fun _ h => .inl h, fun b ⟨j, hb⟩ => .inl ⟨j, (own_set nx hb).1⟩⟩ (lent_set fun d' z => by rw [e] at z; cases z)
      (R.unown nx fun _ z => nomatch z) (kV_T ⟨a, o, rfl, .inr ⟨i, ow⟩, hF, hi, n2, hH, ro⟩)⟩
  · exact False.elim q
end
end TD

end
section
set_option maxRecDepth 100000
set_option maxHeartbeats 4000000
/-! TdD: operands looked up, growth, operations. -/
namespace TD
open PySem L2

/-- what an operand is now -/
def S.look (s : S) : Ar → Option D
  | .v d => match d with
    | .ref n => s.h[n]?
    | d => some d
  | .sl i => match s.r[i]? with
    | some (.own _ d) => some d
    | some (.fz (.ref n)) => s.h[n]?
    | some (.fz d) => some d
    | _ => none
/-- a tree, frozen or as it stands now -/
def RepH (W : Wd) (H : Hp) (d : D) (v : V) : Prop := Rep W d v ∨ ∃ a o, v = .ref a ∧ H a = some o ∧ ORep W d o
inductive RepHs (W : Wd) (H : Hp) : List D → List V → Prop
  | nil : RepHs W H [] []
  | cons {d : D} {v : V} {ds : List D} {vs : List V} : RepH W H d v → RepHs W H ds vs → RepHs W H (d :: ds) (v :: vs)
theorem Rel.lookRef {W : Wd} {s : S} {t : St} {H : Hp} {n : Nat} {d : D} {v : V} (R : Rel W s t H) (r : Rep W (.ref n) v) (h : s.h[n]? = some d) : RepH W H d v := by
  obtain ⟨a, h1, rfl⟩ := r
  obtain ⟨b, o, h2, _, h3, h4⟩ := R.hr.at_ n d h
  rw [h1] at h2
  cases h2
  exact .inr ⟨a, o, rfl, h3, h4⟩
theorem Rel.look {W : Wd} {s : S} {t : St} {H : Hp} {x : Ar} {v : V} {d : D} (R : Rel W s t H) (r : RepA W t x v) (h : s.look x = some d) : RepH W H d v := by
  cases x with
  | v e =>
    unfold S.look at h
    dsimp only at h
    split at h
    · exact R.lookRef r h
    · cases h
      exact .inl r
  | sl i =>
    have r : t[i]? = some (some v) := r
    unfold S.look at h
    dsimp only at h
    split at h
    · rename_i lk e q
      cases h
      obtain ⟨a, o, h1, _, _, h2, h3⟩ := R.own i _ _ q
      rw [r] at h1
      cases h1
      exact .inr ⟨a, o, rfl, h2, h3⟩
    · rename_i n q
      obtain ⟨w, h1, h2⟩ := R.fz i _ q
      rw [r] at h1
      cases h1
      exact R.lookRef h2 h
    · rename_i e q
      cases h
      obtain ⟨w, h1, h2⟩ := R.fz i _ q
      rw [r] at h1
      cases h1
      exact .inl h2
    · cases h
def S.looks (s : S) : List Ar → Option (List D)
  | [] => some []
  | x :: xs => match s.look x, s.looks xs with
    | some d, some ds => some (d :: ds)
    | _, _ => none
theorem Rel.looks {W : Wd} {s : S} {t : St} {H : Hp} (R : Rel W s t H) : ∀ {xs : List Ar} {vs : List V} {ds : List D}, RepAs W t xs vs → s.looks xs = some ds → RepHs W H ds vs
  | [], _, _, .nil, h => by cases h; exact .nil
  | x :: xs, _, _, .cons a r, h => by
    unfold S.looks at h
    split at h
    · rename_i d ds h1 h2
      cases h
      exact .cons (R.look a h1) (R.looks r h2)
    · cases h

/-! what a tree's value is -/
section
variable {W : Wd} {H : Hp} {v : V} {ds : List D}
theorem RepH.int {i : Int} (h : RepH W H (.int i) v) : v = .int i := h.elim id fun ⟨_, _, _, _, r⟩ => False.elim r
theorem RepH.str {x : Str} (h : RepH W H (.str x) v) : v = .str x := h.elim id fun ⟨_, _, _, _, r⟩ => False.elim r
theorem RepH.bl {b : Bool} (h : RepH W H (.bl b) v) : v = .bl b := h.elim id fun ⟨_, _, _, _, r⟩ => False.elim r
theorem RepH.non (h : RepH W H .non v) : v = .non := h.elim id fun ⟨_, _, _, _, r⟩ => False.elim r
theorem RepH.lst (sm : Same W.F H) (h : RepH W H (.nd .lst ds) v) : ∃ a xs, v = .ref a ∧ H a = some (.lst xs) ∧ Reps W ds xs := by
  rcases h with h | ⟨a, o, e, q, r⟩
  · obtain ⟨a, e, xs, q, r⟩ := h
    exact ⟨a, xs, e, sm _ _ q, r⟩
  · obtain ⟨xs, rfl, r⟩ := r
    exact ⟨a, xs, e, q, r⟩
theorem RepH.scr (sm : Same W.F H) (h : RepH W H (.nd .scr ds) v) : ∃ a o xs, v = .ref a ∧ H a = some (.frz o (.lst xs)) ∧ Reps W ds xs := by
  rcases h with h | ⟨a, o, e, q, r⟩
  · obtain ⟨a, e, o, xs, q, r⟩ := h
    exact ⟨a, o, xs, e, sm _ _ q, r⟩
  · exact False.elim r
theorem RepH.tup (sm : Same W.F H) (h : RepH W H (.nd .tup ds) v) : ∃ a xs, v = .ref a ∧ H a = some (.tup xs) ∧ Reps W ds xs := by
  rcases h with h | ⟨a, o, e, q, r⟩
  · obtain ⟨a, e, xs, q, r⟩ := h
    exact ⟨a, xs, e, sm _ _ q, r⟩
  · exact False.elim r
theorem RepH.tupF (h : RepH W H (.nd .tup ds) v) : Rep W (.nd .tup ds) v := h.elim id fun ⟨_, _, _, _, z⟩ => False.elim z
theorem RepH.dct (sm : Same W.F H) (h : RepH W H (.nd .dct ds) v) : ∃ a, v = .ref a ∧ ((∃ kvs, H a = some (.dK kvs) ∧ DReps W ds kvs) ∨ ∃ kvs, H a = some (.dT kvs) ∧ TReps W ds kvs) := by
  rcases h with h | ⟨a, o, e, q, r⟩
  · obtain ⟨a, e, r⟩ := h
    exact ⟨a, e, r.imp (fun ⟨k, q, r⟩ => ⟨k, sm _ _ q, r⟩) fun ⟨k, q, r⟩ => ⟨k, sm _ _ q, r⟩⟩
  · refine ⟨a, e, ?_⟩
    rcases r with ⟨k, rfl, r⟩ | ⟨k, rfl, r⟩
    · exact .inl ⟨k, q, r⟩
    · exact .inr ⟨k, q, r⟩
theorem RepH.ins {c : Str} {fs : List Str} (sm : Same W.F H) (h : RepH W H (.nd (.ins c fs) ds) v) : ∃ a C dx xs, v = .ref a ∧ W.cl c = some C ∧ H a = some (.ins C dx (fs.zip xs)) ∧ xs.length = fs.length ∧ Reps W ds xs := by
  rcases h with h | ⟨a, o, e, q, r⟩
  · obtain ⟨a, e, C, dx, xs, c1, q, z, r⟩ := h
    exact ⟨a, C, dx, xs, e, c1, sm _ _ q, z, r⟩
  · obtain ⟨C, dx, xs, c1, rfl, z, r⟩ := r
    exact ⟨a, C, dx, xs, e, c1, q, z, r⟩
end
theorem RepHs.one {W : Wd} {H : Hp} {d : D} {vs : List V} (h : RepHs W H [d] vs) : ∃ v, vs = [v] ∧ RepH W H d v := by
  cases h with
  | cons a r => cases r; exact ⟨_, rfl, a⟩
theorem RepHs.two {W : Wd} {H : Hp} {d e : D} {vs : List V} (h : RepHs W H [d, e] vs) : ∃ v w, vs = [v, w] ∧ RepH W H d v ∧ RepH W H e w := by
  cases h with
  | cons a r => cases r with | cons b r => cases r; exact ⟨_, _, rfl, a, b⟩

/-! ### growth -/
/-- nothing that stood is changed; new nodes, frozen or not -/
structure Grow (W : Wd) (H : Hp) (W' : Wd) (H' : Hp) : Prop where
  le : W.le W'
  io : W'.io = W.io
  same : Same W'.F H'
  keep : Same H H'
  newF : ∀ a, W'.F a ≠ none → W.F a ≠ none ∨ H a = none
theorem Grow.refl {W : Wd} {H : Hp} (h : Same W.F H) : Grow W H W H := ⟨.refl W, rfl, h, .refl H, fun _ h => .inl h⟩
theorem Grow.fr {W : Wd} {H : Hp} {p : Addr} {o : HO} (h : Same W.F H) (hp : H p = none) : Grow W H (W.fr p o) (upd H p o) := by
  have hF : W.F p = none := h.free hp
  refine ⟨Wd.le_fr hF, rfl, fun b x q => ?_, fun b x q => (upd_ne (ne_of_none q hp)).trans q, fun b hb => ?_⟩
  · by_cases e : b = p
    · subst e
      have q : upd W.F b o b = some x := q
      rw [upd_same] at q ⊢
      exact q
    · have q : upd W.F p o b = some x := q
      rw [upd_ne e] at q ⊢
      exact h b x q
  · by_cases e : b = p
    · subst e
      exact .inr hp
    · exact .inl fun z => hb ((upd_ne e).trans z)
theorem Grow.new {W : Wd} {H : Hp} {p : Addr} {o : HO} (h : Same W.F H) (hp : H p = none) : Grow W H W (upd H p o) :=
  ⟨.refl W, rfl, fun b x q => (upd_ne (ne_of_none (h b x q) hp)).trans (h b x q), fun b x q => (upd_ne (ne_of_none q hp)).trans q, fun _ h => .inl h⟩
theorem Grow.trans {W W1 W2 : Wd} {H H1 H2 : Hp} (a : Grow W H W1 H1) (b : Grow W1 H1 W2 H2) : Grow W H W2 H2 :=
  ⟨a.le.trans b.le, b.io.trans a.io, b.same, a.keep.trans b.keep, fun x h => (b.newF x h).elim (a.newF x) fun q => .inr (a.keep.free q)⟩
theorem Grow.step {W W' : Wd} {H H' : Hp} {O : Addr → Prop} (g : Grow W H W' H') : Step W O H W' O H' :=
  { le := g.le
    keep := fun a o h _ _ => g.keep a o h
    dom := fun a h => by
      cases e : H a with
      | none => exact absurd e h
      | some o =>
        rw [g.keep a o e]
        exact fun z => nomatch z
    newF := fun a h => (g.newF a h).imp id .inl
    newI := fun a h => .inl (by rw [g.io] at h; exact h)
    newO := fun a h => .inl h }
theorem Grow.rel {W W' : Wd} {s : S} {t : St} {H H' : Hp} (g : Grow W H W' H') (R : Rel W s t H) : Rel W' s t H' where
  hr := ⟨g.same, by rw [g.io]; exact R.hr.nd, by rw [g.io]; exact R.hr.len, fun n d q => by
      obtain ⟨a, o, h1, h2, h3, h4⟩ := R.hr.at_ n d q
      refine ⟨a, o, by rw [g.io]; exact h1, ?_, g.keep a o h3, h4.mono g.le⟩
      cases e : W'.F a with
      | none => rfl
      | some u => exact (g.newF a (by rw [e]; exact fun z => nomatch z)).elim (fun z => absurd h2 z) fun z => by rw [h3] at z; cases z⟩
  len := R.len
  fz := fun i d q => let ⟨v, h1, h2⟩ := R.fz i d q; ⟨v, h1, h2.mono g.le⟩
  own := fun i lk d q => by
    obtain ⟨a, o, h1, h2, h3, h4, h5⟩ := R.own i lk d q
    refine ⟨a, o, h1, ?_, by rw [g.io]; exact h3, g.keep a o h4, h5.mono g.le⟩
    cases e : W'.F a with
    | none => rfl
    | some u => exact (g.newF a (by rw [e]; exact fun z => nomatch z)).elim (fun z => absurd h2 z) fun z => by rw [h4] at z; cases z
  one := R.one
theorem RepH.grow {W W' : Wd} {H H' : Hp} {d : D} {v : V} (g : Grow W H W' H') (h : RepH W H d v) : RepH W' H' d v :=
  h.imp (fun h => h.mono g.le) fun ⟨a, o, e, q, r⟩ => ⟨a, o, e, g.keep a o q, r.mono g.le⟩

/-- an operation's value -/
def RepG (W' : Wd) (H H' : Hp) (a : D × Bool) (v : V) : Prop :=
  if a.2 = true then ∃ p o, v = .ref p ∧ H p = none ∧ W'.F p = none ∧ H' p = some o ∧ ORep W' a.1 o else Rep W' a.1 v
theorem RepG.f {W' : Wd} {H H' : Hp} {d : D} {v : V} (h : Rep W' d v) : RepG W' H H' (d, false) v := by
  unfold RepG
  rw [if_neg (show ¬ (d, false).2 = true from Bool.false_ne_true)]
  exact h
theorem RepG.t {W' : Wd} {H H' : Hp} {d : D} {v : V} (h : ∃ p o, v = .ref p ∧ H p = none ∧ W'.F p = none ∧ H' p = some o ∧ ORep W' d o) : RepG W' H H' (d, true) v := by
  unfold RepG
  rw [if_pos rfl]
  exact h
theorem RepG.kV {W W' : Wd} {s : S} {t : St} {H H' : Hp} {a : D × Bool} {v : V} (g : Grow W H W' H') (R : Rel W s t H) (h : RepG W' H H' a v) : kV.rp W' s t (New s t H) H' a v := by
  obtain ⟨d, fr⟩ := a
  cases fr with
  | false =>
    unfold RepG at h
    rw [if_neg (show ¬ (d, false).2 = true from Bool.false_ne_true)] at h
    exact kV_F h
  | true =>
    unfold RepG at h
    rw [if_pos rfl] at h
    obtain ⟨p, o, e, hp, hF, hH, r⟩ := h
    refine kV_T ⟨p, o, e, .inl hp, hF, fun z => ?_, fun ⟨i, ⟨lk, d', z1⟩, z2⟩ => ?_, hH, r⟩
    · rw [g.io] at z
      obtain ⟨n, hn⟩ := List.getElem?_of_mem z
      have hl : n < s.h.length := by rw [← R.hr.len]; exact (List.getElem?_eq_some_iff.mp hn).1
      obtain ⟨b, u, h1, _, h3, _⟩ := R.hr.at_ n _ (List.getElem?_eq_getElem hl)
      rw [hn] at h1
      cases h1
      rw [hp] at h3
      cases h3
    · obtain ⟨b, u, h1, _, _, h4, _⟩ := R.own i lk d' z1
      rw [z2] at h1
      cases h1
      rw [hp] at h4
      cases h4

/-- what behind an operation is to be shown -/
abbrev Aft (W : Wd) (H : Hp) (Q : VK) (a : D × Bool) : Prop := ∀ v W' H', Grow W H W' H' → RepG W' H H' a v → Q v H'
theorem Aft.flat {W : Wd} {H : Hp} {Q : VK} {d : D} (h : Aft W H Q (d, false)) (sm : Same W.F H) {v : V} (r : Rep W d v) : Q v H := h v W H (.refl sm) (.f r)
theorem Aft.tup {W : Wd} {H : Hp} {Q : VK} {ds : List D} {xs : List V} (h : Aft W H Q (.nd .tup ds, false)) (sm : Same W.F H) {p : Addr} (hp : H p = none) (r : Reps W ds xs) : Q (.ref p) (upd H p (.tup xs)) :=
  h _ _ _ (.fr sm hp) (.f ⟨p, rfl, xs, upd_same, r.mono (Wd.le_fr (sm.free hp))⟩)
theorem Aft.lst {W : Wd} {H : Hp} {Q : VK} {d : D} {o : HO} (h : Aft W H Q (d, true)) (sm : Same W.F H) {p : Addr} (hp : H p = none) (r : ORep W d o) : Q (.ref p) (upd H p o) :=
  h _ _ _ (.new sm hp) (.t ⟨p, o, rfl, hp, sm.free hp, upd_same, r⟩)
theorem Po.aft {W : Wd} {s : S} {t : St} {H : Hp} {Wx : WX} {Q : VK} {a : D × Bool} (R : Rel W s t H) (h : Po kV W s t H Wx Q (.ok a s)) : Aft W H Q a :=
  fun v W' H' g r => h v W' H' g.step .refl (g.rel R) (r.kV g R)

/-! ### operations -/
def Prim2 (K : PySem.W.Frag) (r : R2) (g : D → D → Option (D × Bool)) : Prop := ∀ (W : Wd) (H : Hp) (x y : D) (v w : V) (Q : VK) (a : D × Bool), W.K = K → Same W.F H → RepH W H x v → RepH W H y w → g x y = some a → Aft W H Q a → r v w H Q
def PrimN (K : PySem.W.Frag) (r : List V → Hp → VK → Prop) (g : List D → Option (D × Bool)) : Prop := ∀ (W : Wd) (H : Hp) (ds : List D) (vs : List V) (Q : VK) (a : D × Bool), W.K = K → Same W.F H → RepHs W H ds vs → g ds = some a → Aft W H Q a → r vs H Q
def ap2 (g : D → D → Option (D × Bool)) (x y : Ar) (s : S) : Ou (D × Bool) := match s.look x, s.look y with
  | some a, some b => match g a b with
    | some r => .ok r s
    | none => .bad
  | _, _ => .bad
def apN (g : List D → Option (D × Bool)) (xs : List Ar) (s : S) : Ou (D × Bool) := match s.looks xs with
  | some ds => match g ds with
    | some r => .ok r s
    | none => .bad
  | none => .bad
def eOp2 (g : D → D → Option (D × Bool)) (fa fb : S → Ou Ar) : S → Ou (D × Bool) := fun s => (fa s).bind fun x s1 => (fb s1).bind fun y s2 => ap2 g x y s2
def eOpN (g : List D → Option (D × Bool)) (fs : S → Ou (List Ar)) : S → Ou (D × Bool) := fun s => (fs s).bind fun xs s1 => apN g xs s1
section
variable {K : PySem.W.Frag} {mg : Str → Option Value} {Wx : WX}
theorem tD_op2 {r : R2} {g : D → D → Option (D × Bool)} {fa fb : S → Ou Ar} {t : St} {H : Hp} {Q : VK} (hp : Prim2 K r g) (h : tD kV K mg Wx (eOp2 g fa fb) t H Q) : tOp r (tD kA K mg Wx fa) (tD kA K mg Wx fb) t H Q := by
  obtain ⟨W, s, o, R, q⟩ := h
  refine ⟨W, s, o, R, Po.bind q fun x v s1 W1 H1 st ln R1 rx q1 => ⟨W1, s1, o.le st.le, R1, Po.bind q1 fun y w s2 W2 H2 st2 ln2 R2 ry q2 => ?_⟩⟩
  unfold ap2 at q2
  split at q2
  · rename_i a b e1 e2
    split at q2
    · rename_i c e3
      exact hp W2 H2 a b v w Q c ((o.le st.le).le st2.le).K R2.hr.same (R2.look (RepA.mono st2.le rx) e1) (R2.look ry e2) e3 (Po.aft R2 q2)
    · exact False.elim q2
  · exact False.elim q2
theorem tD_opN {r : List V → Hp → VK → Prop} {g : List D → Option (D × Bool)} {fs : S → Ou (List Ar)} {t : St} {H : Hp} {Q : VK} (hp : PrimN K r g) (h : tD kV K mg Wx (eOpN g fs) t H Q) : tD kAs K mg Wx fs t H fun vs H1 => r vs H1 Q := by
  obtain ⟨W, s, o, R, q⟩ := h
  refine ⟨W, s, o, R, Po.bind q fun xs vs s1 W1 H1 st ln R1 rx q1 => ?_⟩
  unfold apN at q1
  split at q1
  · rename_i ds e1
    split at q1
    · rename_i c e3
      exact hp W1 H1 ds vs Q c (o.le st.le).K R1.hr.same (R1.looks rx e1) e3 (Po.aft R1 q1)
    · exact False.elim q1
  · exact False.elim q1
/-- a test out of a value -/
def tst (o : Ou (D × Bool)) : Ou Bool := match o with
  | .ok (.bl b, _) s => .ok b s
  | .ok _ _ => .bad
  | .ex e s => .ex e s
  | .bad => .bad
theorem tD_tst {f : S → Ou (D × Bool)} {t : St} {H : Hp} {Q : Bool → Hp → Prop} (h : tD kB K mg Wx (fun s => tst (f s)) t H Q) : tD kV K mg Wx f t H fun x H' => ∃ k, x = .bl k ∧ Q k H' := by
  obtain ⟨W, s, o, R, q⟩ := h
  refine ⟨W, s, o, R, ?_⟩
  dsimp only at q
  cases e : f s with
  | ok a s1 =>
    rw [e] at q
    obtain ⟨d, fr⟩ := a
    cases d with
    | bl b =>
      intro v W' H' st ln R' rv
      have ev : v = .bl b := kV_flat (d := .bl b) rv fun _ z => z
      exact ⟨b, ev, q b W' H' st ln R' rfl⟩
    | _ => exact False.elim q
  | ex x s1 => rw [e] at q; exact q
  | bad => rw [e] at q; exact q
end
section
variable {X : Cx} {α β γ : Type} {a b c e : Expr} {es : List Expr} {pos : Pos}
theorem PAD.nil : PAD kAs X [] (fun s => .ok [] s) := fun Wx tk => ⟨fun pos pins s σ H Q I ⟨W, s', o, R, q⟩ => pa_nil.run pos pins s σ H Q I (Po.pure q R .nil)⟩
def aCons (fa : S → Ou Ar) (fr : S → Ou (List Ar)) : S → Ou (List Ar) := fun s => (fa s).bind fun x s1 => (fr s1).bind fun xs s2 => .ok (x :: xs) s2
theorem PAD.cons {fa : S → Ou Ar} {fr : S → Ou (List Ar)} (ha : PD kA X e fa) (hr : PAD kAs X es fr) (hs : starEach (e :: es) X.env = (false, eval e X.env) :: starEach es X.env) : PAD kAs X (e :: es) (aCons fa fr) := fun Wx tk =>
  ⟨fun pos pins s σ H Q I ⟨W, s', o, R, q⟩ => (pa_cons (ha Wx tk) (hr Wx tk) hs).run pos pins s σ H Q I ⟨W, s', o, R, Po.bind q fun x v s1 W1 H1 st ln R1 rx q1 => ⟨W1, s1, o.le st.le, R1, Po.bind q1 fun xs vs s2 W2 H2 st2 ln2 R2 rxs q2 =>
    q2 (v :: vs) W2 H2 .refl .refl R2 (RepAs.cons (RepA.mono st2.le rx) rxs)⟩⟩⟩
theorem PAD.fnil : PAD kFs X [] (fun s => .ok [] s) := fun Wx tk => ⟨fun pos pins s σ H Q I ⟨W, s', o, R, q⟩ => pa_nil.run pos pins s σ H Q I (Po.pure q R rfl)⟩
def fCons (fa : S → Ou D) (fr : S → Ou (List D)) : S → Ou (List D) := fun s => (fa s).bind fun x s1 => (fr s1).bind fun xs s2 => .ok (x :: xs) s2
theorem PAD.fcons {fa : S → Ou D} {fr : S → Ou (List D)} (ha : PD kF X e fa) (hr : PAD kFs X es fr) (hs : starEach (e :: es) X.env = (false, eval e X.env) :: starEach es X.env) : PAD kFs X (e :: es) (fCons fa fr) := fun Wx tk =>
  ⟨fun pos pins s σ H Q I ⟨W, s', o, R, q⟩ => (pa_cons (ha Wx tk) (hr Wx tk) hs).run pos pins s σ H Q I ⟨W, s', o, R, Po.bind q fun x v s1 W1 H1 st ln R1 rx q1 => ⟨W1, s1, o.le st.le, R1, Po.bind q1 fun xs vs s2 W2 H2 st2 ln2 R2 rxs q2 =>
    q2 (v :: vs) W2 H2 .refl .refl R2 ⟨v, vs, rfl, Rep.mono st2.le rx, rxs⟩⟩⟩⟩
theorem PD.bin {op : Operator} {r : R2} {g : D → D → Option (D × Bool)} {fa fb : S → Ou Ar} (ho : OpR X (binaryOp op) r) (hp : Prim2 X.K r g) (ha : PD kA X a fa) (hb : PD kA X b fb) : PD kV X (.BinOp a op b pos) (eOp2 g fa fb) := fun Wx tk =>
  PE.imp (pe_op ho (ha Wx tk) (hb Wx tk)) fun _ _ _ => tD_op2 hp
theorem PD.cmp {op : CmpOp} {r : R2} {g : D → D → Option (D × Bool)} {fa fb : S → Ou Ar} (ho : OpR X (compareOp op) r) (hp : Prim2 X.K r g) (ha : PD kA X a fa) (hb : PD kA X b fb) (hm : behindInMarks op b = false) : PD kV X (.Compare a [op] [b] pos) (eOp2 g fa fb) := fun Wx tk =>
  PE.imp (pe_cmpR ho (ha Wx tk) (hb Wx tk) hm) fun _ _ _ => tD_op2 hp
theorem PT.imp {t t' : TT} (h : PT X e t) (i : ∀ s H Q, t' s H Q → t s H Q) : PT X e t' := ⟨fun pins s σ H Q I q => h.run pins s σ H Q I (i _ _ _ q)⟩
theorem PTD.cmp {op : CmpOp} {r : R2} {g : D → D → Option (D × Bool)} {fa fb : S → Ou Ar} (ho : OpR X (compareOp op) r) (hp : Prim2 X.K r g) (ha : PD kA X a fa) (hb : PD kA X b fb) (hm : behindInMarks op b = false) : PTD kB X (.Compare a [op] [b] pos) (fun s => tst (eOp2 g fa fb s)) := fun Wx tk =>
  PT.imp (pt_cmpR ho (ha Wx tk) (hb Wx tk) hm) fun t H Q h => tD_op2 (Q := fun x H' => ∃ k, x = .bl k ∧ Q k H') hp (tD_tst h)
end
end TD

end
section
set_option maxRecDepth 100000
set_option maxHeartbeats 4000000
/-! TdE: the rules of expressions. -/
namespace TD
open PySem L2
section
variable {X : Cx} {α β γ : Type} {a b c e o : Expr} {es : List Expr} {pos apos cpos : Pos}
theorem PD.int {i : Int} {j} : PD kF X (.Constant (.int i) j pos) (eC (.int i)) := fun Wx tk => PE.imp pe_int fun t H Q ⟨W, s, o, R, q⟩ => Po.pure q R rfl
theorem PD.str {x : Str} {j} : PD kF X (.Constant (.str x) j pos) (eC (.str x)) := fun Wx tk => PE.imp pe_str fun t H Q ⟨W, s, o, R, q⟩ => Po.pure q R rfl
theorem PD.bl {x : Bool} {j} : PD kF X (.Constant (.bool x) j pos) (eC (.bl x)) := fun Wx tk => PE.imp pe_bl fun t H Q ⟨W, s, o, R, q⟩ => Po.pure q R rfl
theorem PD.non {j} : PD kF X (.Constant .none j pos) (eC .non) := fun Wx tk => PE.imp pe_non fun t H Q ⟨W, s, o, R, q⟩ => Po.pure q R rfl
/-- a module's constant -/
theorem PD.glob {x : Str} {u : Value} {d : D} {v : V} (hg : Gl X x) (hm : X.mg x = some u) (rv : RelV v u) (hd : ∀ W, Rep W d v) (hdb : (x == ("__debug__" : Str)) = false) : PD kF X (.Name x pos) (eC d) := fun Wx tk =>
  PE.imp (pe_glob hg hm rv hdb) fun t H Q ⟨W, s, o, R, q⟩ => Po.pure q R (hd W)
def eIf {α : Type} (fc : S → Ou Bool) (fa fb : S → Ou α) : S → Ou α := fun s => (fc s).bind fun b s1 => if b = true then fa s1 else fb s1
theorem PD.ite {k : Rk α V} {fc : S → Ou Bool} {fa fb : S → Ou α} (hc : PTD kB X c fc) (ha : PD k X a fa) (hb : PD k X b fb) : PD k X (.IfExp c a b pos) (eIf fc fa fb) := fun Wx tk =>
  PE.imp (pe_ifExp (hc Wx tk) (ha Wx tk) (hb Wx tk)) fun t H Q ⟨W, s, o, R, q⟩ => ⟨W, s, o, R, Po.bind q fun x y s1 W1 H1 st ln R1 rx q1 => by
    cases (show x = y from rx)
    cases x with
    | true => rw [if_pos rfl]; exact ⟨W1, s1, o.le st.le, R1, q1⟩
    | false => rw [if_neg Bool.false_ne_true]; exact ⟨W1, s1, o.le st.le, R1, q1⟩⟩
/-! and, or, not as values: all but the last are truth values -/
def eAnd (fa : S → Ou Bool) (fb : S → Ou (D × Bool)) : S → Ou (D × Bool) := fun s => (fa s).bind fun b s1 => if b = true then fb s1 else .ok (.bl false, false) s1
def eOr (fa : S → Ou Bool) (fb : S → Ou (D × Bool)) : S → Ou (D × Bool) := fun s => (fa s).bind fun b s1 => if b = true then .ok (.bl true, false) s1 else fb s1
def eNot (fa : S → Ou Bool) : S → Ou (D × Bool) := fun s => (fa s).bind fun b s1 => .ok (.bl (!b), false) s1
theorem PD.and1 {op} {k : Rk α V} {f : S → Ou α} (h : PD k X a f) : PD k X (.BoolOp op [a] pos) f := fun Wx tk => pe_one (h Wx tk)
/-- a value as a test -/
theorem tD_bool {K : PySem.W.Frag} {mg : Str → Option Value} {Wx : WX} {f : S → Ou (D × Bool)} {t : St} {H : Hp} {R2 : V → Hp → Prop} {Q : Bool → Hp → Prop} (h : tD kB K mg Wx (fun s => tst (f s)) t H Q) (i : ∀ k H', Q k H' → R2 (.bl k) H') : tD kV K mg Wx f t H R2 := by
  obtain ⟨W, s, o, R, q⟩ := tD_tst h
  refine ⟨W, s, o, R, ?_⟩
  cases e : f s with
  | ok a s1 =>
    rw [e] at q
    intro v W' H' st ln R' rv
    obtain ⟨k, rfl, z⟩ := q v W' H' st ln R' rv
    exact i k H' z
  | ex x s1 => rw [e] at q; exact q
  | bad => rw [e] at q; exact q
theorem PD.and {rest : List Expr} {fa fb : S → Ou (D × Bool)} (ha : PD kV X a fa) (hb : PD kV X (.BoolOp .And (b :: rest) pos) fb) : PD kV X (.BoolOp .And (a :: b :: rest) pos) (eAnd (fun s => tst (fa s)) fb) := fun Wx tk =>
  PE.imp (pe_and (ha Wx tk) (hb Wx tk)) fun t H Q ⟨W, s, o, R, q⟩ => tD_bool (Q := fun k H1 => if k = true then tD kV X.K X.mg Wx fb t H1 Q else Q (.bl false) H1) ⟨W, s, o, R, Po.bind q fun x y s1 W1 H1 st ln R1 rx q1 => by
    cases (show x = y from rx)
    cases x with
    | true => exact ⟨W1, s1, o.le st.le, R1, q1⟩
    | false => exact Po.pure q1 R1 (kV_F rfl)⟩ fun k H1 z => ⟨k, rfl, z⟩
theorem PD.or {rest : List Expr} {fa fb : S → Ou (D × Bool)} (ha : PD kV X a fa) (hb : PD kV X (.BoolOp .Or (b :: rest) pos) fb) : PD kV X (.BoolOp .Or (a :: b :: rest) pos) (eOr (fun s => tst (fa s)) fb) := fun Wx tk =>
  PE.imp (pe_or (ha Wx tk) (hb Wx tk)) fun t H Q ⟨W, s, o, R, q⟩ => tD_bool (Q := fun k H1 => if k = true then Q (.bl true) H1 else tD kV X.K X.mg Wx fb t H1 Q) ⟨W, s, o, R, Po.bind q fun x y s1 W1 H1 st ln R1 rx q1 => by
    cases (show x = y from rx)
    cases x with
    | true => exact Po.pure q1 R1 (kV_F rfl)
    | false => exact ⟨W1, s1, o.le st.le, R1, q1⟩⟩ fun k H1 z => ⟨k, rfl, z⟩
theorem PD.not {fa : S → Ou (D × Bool)} (ha : PD kV X a fa) : PD kV X (.UnaryOp .Not a pos) (eNot (fun s => tst (fa s))) := fun Wx tk =>
  PE.imp (pe_not (ha Wx tk)) fun t H Q ⟨W, s, o, R, q⟩ => tD_bool (Q := fun k H1 => Q (.bl (!k)) H1) ⟨W, s, o, R, Po.bind q fun x y s1 W1 H1 st ln R1 rx q1 => by
    cases (show x = y from rx)
    exact Po.pure q1 R1 (kV_F rfl)⟩ fun k H1 z => ⟨k, rfl, z⟩
/-! tests -/
def tAnd (fa fb : S → Ou Bool) : S → Ou Bool := fun s => (fa s).bind fun b s1 => if b = true then fb s1 else .ok false s1
def tOr (fa fb : S → Ou Bool) : S → Ou Bool := fun s => (fa s).bind fun b s1 => if b = true then .ok true s1 else fb s1
def tNot (fa : S → Ou Bool) : S → Ou Bool := fun s => (fa s).bind fun b s1 => .ok (!b) s1
def PWD (k : Rk Bool Bool) (X : Cx) (e : Expr) (f : S → Ou Bool) : Prop := ∀ Wx, Takes X Wx → PW X e (tD k X.K X.mg Wx f)
theorem PW.imp {t t' : TT} (h : PW X e t) (i : ∀ s H Q, t' s H Q → t s H Q) : PW X e t' := ⟨fun w pins s σ H Q I q => h.run w pins s σ H Q I (i _ _ _ q)⟩
theorem PTD.val {f : S → Ou (D × Bool)} (h : PD kV X e f) (he : ∀ whole, isTrue e X.env whole = (do let v ← whole; standAt e.pos; holding [v] (truthy v))) : PTD kB X e (fun s => tst (f s)) := fun Wx tk =>
  PT.imp (pt_val (h Wx tk) he) fun t H Q q => tD_tst q
theorem PTD.of {f : S → Ou Bool} (h : PWD kB X e f) : PTD kB X e f := fun Wx tk => (h Wx tk).pt
theorem PWD.and1 {f : S → Ou Bool} (h : PTD kB X a f) : PWD kB X (.BoolOp .And [a] pos) f := fun Wx tk => pw_and1 (h Wx tk)
theorem PWD.or1 {f : S → Ou Bool} (h : PTD kB X a f) : PWD kB X (.BoolOp .Or [a] pos) f := fun Wx tk => pw_or1 (h Wx tk)
theorem PWD.and {rest : List Expr} {fa fb : S → Ou Bool} (ha : PTD kB X a fa) (hb : PWD kB X (.BoolOp .And (b :: rest) pos) fb) : PWD kB X (.BoolOp .And (a :: b :: rest) pos) (tAnd fa fb) := fun Wx tk =>
  PW.imp (pw_and (ha Wx tk) (hb Wx tk)) fun t H Q ⟨W, s, o, R, q⟩ => ⟨W, s, o, R, Po.bind q fun x y s1 W1 H1 st ln R1 rx q1 => by
    cases (show x = y from rx)
    cases x with
    | true => exact ⟨W1, s1, o.le st.le, R1, q1⟩
    | false => exact Po.pure q1 R1 rfl⟩
theorem PWD.or {rest : List Expr} {fa fb : S → Ou Bool} (ha : PTD kB X a fa) (hb : PWD kB X (.BoolOp .Or (b :: rest) pos) fb) : PWD kB X (.BoolOp .Or (a :: b :: rest) pos) (tOr fa fb) := fun Wx tk =>
  PW.imp (pw_or (ha Wx tk) (hb Wx tk)) fun t H Q ⟨W, s, o, R, q⟩ => ⟨W, s, o, R, Po.bind q fun x y s1 W1 H1 st ln R1 rx q1 => by
    cases (show x = y from rx)
    cases x with
    | true => exact Po.pure q1 R1 rfl
    | false => exact ⟨W1, s1, o.le st.le, R1, q1⟩⟩
theorem PTD.not {fa : S → Ou Bool} (ha : PTD kB X a fa) : PTD kB X (.UnaryOp .Not a pos) (tNot fa) := fun Wx tk =>
  PT.imp (pt_not (ha Wx tk)) fun t H Q ⟨W, s, o, R, q⟩ => ⟨W, s, o, R, Po.bind q fun x y s1 W1 H1 st ln R1 rx q1 => by
    cases (show x = y from rx)
    exact Po.pure q1 R1 rfl⟩
/-! a < b < c -/
def eChain (g g' : D → D → Option (D × Bool)) (fa fb fc : S → Ou Ar) : S → Ou (D × Bool) := fun s => (fa s).bind fun x s1 => (fb s1).bind fun y s2 => (tst (ap2 g x y s2)).bind fun k s3 => if k = true then (fc s3).bind fun z s4 => ap2 g' y z s4 else .ok (.bl false, false) s3
theorem ap2_at {K : PySem.W.Frag} {mg : Str → Option Value} {Wx : WX} {r : R2} {g : D → D → Option (D × Bool)} {W : Wd} {s : S} {t : St} {H : Hp} {Q : VK} {x y : Ar} {v w : V} (hp : Prim2 K r g) (o : W.of K mg) (R : Rel W s t H) (rx : RepA W t x v) (ry : RepA W t y w) (q : Po kV W s t H Wx Q (ap2 g x y s)) : r v w H Q := by
  unfold ap2 at q
  split at q
  · rename_i a b e1 e2
    split at q
    · rename_i c e3
      exact hp W H a b v w Q c o.K R.hr.same (R.look rx e1) (R.look ry e2) e3 (Po.aft R q)
    · exact False.elim q
  · exact False.elim q
theorem Po.tst {W : Wd} {s : S} {t : St} {H : Hp} {Wx : WX} {o : Ou (D × Bool)} {Q : Bool → Hp → Prop} (h : Po kB W s t H Wx Q (TD.tst o)) : Po kV W s t H Wx (fun x H' => ∃ k, x = .bl k ∧ Q k H') o := by
  cases o with
  | ok a s1 =>
    obtain ⟨d, fr⟩ := a
    cases d with
    | bl b => exact fun v W' H' st ln R' rv => ⟨b, kV_flat (d := .bl b) rv fun _ z => z, h b W' H' st ln R' rfl⟩
    | _ => exact False.elim h
  | ex x s1 => exact h
  | bad => exact h
theorem tD_chain {K : PySem.W.Frag} {mg : Str → Option Value} {Wx : WX} {r r' : R2} {g g' : D → D → Option (D × Bool)} {fa fb fc : S → Ou Ar} {t : St} {H : Hp} {Q : VK} (hp : Prim2 K r g) (hp' : Prim2 K r' g') (h : tD kV K mg Wx (eChain g g' fa fb fc) t H Q) :
    tD kA K mg Wx fa t H fun x H1 => tD kA K mg Wx fb t H1 fun y H2 => r x y H2 fun z H3 => ∃ k, z = .bl k ∧ if k = true then tD kA K mg Wx fc t H3 fun w H4 => r' y w H4 Q else Q (.bl false) H3 := by
  obtain ⟨W, s, o, R, q⟩ := h
  refine ⟨W, s, o, R, Po.bind q fun x v s1 W1 H1 st ln R1 rx q1 => ⟨W1, s1, o.le st.le, R1, Po.bind q1 fun y w s2 W2 H2 st2 ln2 R2 ry q2 => ?_⟩⟩
  have o2 := (o.le st.le).le st2.le
  refine ap2_at (Wx := Wx) hp o2 R2 (RepA.mono st2.le rx) ry (Po.tst (Po.bind (k := kB) q2 fun k k' s3 W3 H3 st3 ln3 R3 rk q3 => ?_))
  cases (show k = k' from rk)
  cases k with
  | true =>
    rw [if_pos rfl]
    exact ⟨W3, s3, o2.le st3.le, R3, Po.bind q3 fun z u s4 W4 H4 st4 ln4 R4 rz q4 => ap2_at (Wx := Wx) hp' ((o2.le st3.le).le st4.le) R4 (RepA.mono (st3.le.trans st4.le) ry) rz q4⟩
  | false =>
    rw [if_neg Bool.false_ne_true]
    exact Po.pure q3 R3 (kV_F rfl)
/-! displays -/
def eTup (fs : S → Ou (List D)) : S → Ou D := fun s => (fs s).bind fun ds s1 => if ds.length ≤ 1000 then .ok (.nd .tup ds) s1 else .bad
def eLst (fs : S → Ou (List D)) : S → Ou (D × Bool) := fun s => (fs s).bind fun ds s1 => if ds.length ≤ 1000 then .ok (.nd .lst ds, true) s1 else .bad
theorem small_line {n : Nat} (h : n ≤ 1000) : n ≤ sizeLine := Nat.le_of_lt (small1000 h)
theorem PD.tup {x1} {fs : S → Ou (List D)} (h : PAD kFs X es fs) : PD kF X (.Tuple es x1 pos) (eTup fs) := fun Wx tk =>
  PE.imp (pe_tup (h Wx tk)) fun t H Q ⟨W, s, o, R, q⟩ => ⟨W, s, o, R, Po.bind q fun ds vs s1 W1 H1 st ln R1 rs q1 => by
    split at q1
    · rename_i hl
      have rs : Reps W1 ds vs := rs
      refine ⟨by rw [rs.length]; exact small_line hl, fun p hp => ?_⟩
      have g := Grow.fr (o := .tup vs) R1.hr.same hp
      exact q1 _ _ _ g.step .refl (g.rel R1) (show Rep _ (.nd .tup ds) (.ref p) from ⟨p, rfl, vs, upd_same, rs.mono g.le⟩)
    · exact False.elim q1⟩
theorem PD.lst {fs : S → Ou (List D)} (h : PAD kFs X es fs) {x1} : PD kV X (.List es x1) (eLst fs) := fun Wx tk =>
  PE.imp (pe_lst (h Wx tk)) fun t H Q ⟨W, s, o, R, q⟩ => ⟨W, s, o, R, Po.bind q fun ds vs s1 W1 H1 st ln R1 rs q1 => by
    split at q1
    · rename_i hl
      have rs : Reps W1 ds vs := rs
      exact ⟨by rw [rs.length]; exact small_line hl, fun p hp => (Po.aft R1 q1).lst R1.hr.same hp ⟨vs, rfl, rs⟩⟩
    · exact False.elim q1⟩
theorem PD.dct0 {x1} : PD kV X (.Dict [] [] x1) (eC (.nd .dct [], true)) := fun Wx tk =>
  PE.imp pe_dnewK fun t H Q ⟨W, s, o, R, q⟩ => fun p hp => (Po.aft R q).lst R.hr.same hp (.inl ⟨[], rfl, rfl⟩)
theorem PD.dctT0 {x1} : PD kV X (.Dict [] [] x1) (eC (.nd .dct [], true)) := fun Wx tk =>
  PE.imp pe_dnewT fun t H Q ⟨W, s, o, R, q⟩ => fun p hp => (Po.aft R q).lst R.hr.same hp (.inr ⟨[], rfl, rfl⟩)
/-! calls of built-ins, subscripts -/
theorem PD.callB {x : Str} {p : Pos} {id : String} {r : List V → Hp → VK → Prop} {g : List D → Option (D × Bool)} {fs : S → Ou (List Ar)} (hc : CallR X (.builtin id) r) (hp : PrimN X.K r g) (hg : Gl X x) (hm : X.mg x = none) (hv : bootBuiltins x = some (.builtin id)) (ha : PAD kAs X (e :: es) fs)
    (hn : x ≠ "__name__") (hdb : (x == ("__debug__" : Str)) = false) (h1 : starEach (e :: es) X.env = (false, eval e X.env) :: starEach es X.env) (h2 : (backTo pos (starEach es X.env)).any (·.1) = false) : PD kV X (.Call (.Name x p) (e :: es) [] pos) (eOpN g fs) := fun Wx tk =>
  PE.imp (pe_callB hc hg hm hv (ha Wx tk) hn hdb h1 h2) fun t H Q h => tD_opN hp h
theorem PD.callTy {x : Str} {p : Pos} {T : String} {r : List V → Hp → VK → Prop} {g : List D → Option (D × Bool)} {fs : S → Ou (List Ar)} (hc : CallR X (.type T) r) (hp : PrimN X.K r g) (hg : Gl X x) (hm : X.mg x = none) (hv : bootBuiltins x = some (.type T)) (ha : PAD kAs X (e :: es) fs)
    (hn : x ≠ "__name__") (hdb : (x == ("__debug__" : Str)) = false) (h1 : starEach (e :: es) X.env = (false, eval e X.env) :: starEach es X.env) (h2 : (backTo pos (starEach es X.env)).any (·.1) = false) : PD kV X (.Call (.Name x p) (e :: es) [] pos) (eOpN g fs) := fun Wx tk =>
  PE.imp (pe_callTy hc hg hm hv (ha Wx tk) hn hdb h1 h2) fun t H Q h => tD_opN hp h
theorem PD.ix {r : R2} {g : D → D → Option (D × Bool)} {fa fb : S → Ou Ar} (hr : IxR X r) (hp : Prim2 X.K r g) (ha : PD kA X a fa) (hb : PD kA X b fb) (hs : PlainIx b) : PD kV X (.Subscript a b pos) (eOp2 g fa fb) := fun Wx tk =>
  PE.imp (pe_ix hr (ha Wx tk) (hb Wx tk) hs) fun _ _ _ => tD_op2 hp
end
end TD

end
section
set_option maxRecDepth 100000
set_option maxHeartbeats 4000000
/-! TdF: statements. -/
namespace TD
open PySem L2
section
variable {X : Cx} {a b c e o : Expr} {es : List Expr} {pos apos cpos : Pos}
theorem PD.chain {op op' : CmpOp} {r r' : R2} {g g' : D → D → Option (D × Bool)} {fa fb fc : S → Ou Ar} (ho : OpR X (compareOp op) r) (ho' : OpR X (compareOp op') r') (hp : Prim2 X.K r g) (hp' : Prim2 X.K r' g') (ha : PD kA X a fa) (hb : PD kA X b fb) (hc : PD kA X c fc)
    (hm : lastMarks [op, op'] [b, c] = false) : PD kV X (.Compare a [op, op'] [b, c] pos) (eChain g g' fa fb fc) := fun Wx tk =>
  PE.imp (pe_chain ho ho' (ha Wx tk) (hb Wx tk) (hc Wx tk) hm) fun _ _ _ h => tD_chain hp hp' h
theorem PTD.chain {op op' : CmpOp} {r r' : R2} {g g' : D → D → Option (D × Bool)} {fa fb fc : S → Ou Ar} (ho : OpR X (compareOp op) r) (ho' : OpR X (compareOp op') r') (hp : Prim2 X.K r g) (hp' : Prim2 X.K r' g') (ha : PD kA X a fa) (hb : PD kA X b fb) (hc : PD kA X c fc)
    (hm : lastMarks [op, op'] [b, c] = false) : PTD kB X (.Compare a [op, op'] [b, c] pos) (fun s => tst (eChain g g' fa fb fc s)) := fun Wx tk =>
  PT.imp (pt_chain ho ho' (ha Wx tk) (hb Wx tk) (hc Wx tk) hm) fun t H Q h => tD_chain (Q := fun x H' => ∃ k, x = .bl k ∧ Q k H') hp hp' (tD_tst h)
end
/-- what is to be shown behind a statement -/
def PoS (W : Wd) (s : S) (t : St) (H : Hp) (Wx : WX) (D : Ends) : OutS → Prop
  | .nx s' => ∀ W' t' H', Step W (Ow s t) H W' (Ow s' t') H' → Lent s s' t t' → Rel W' s' t' H' → D.nx t' H'
  | .rt d fr s' => ∀ v W' t' H', Step W (Ow s t) H W' (Ow s' t') H' → Lent s s' t t' → Rel W' s' t' H' → kV.rp W' s' t' (New s t H) H' (d, fr) v → D.rt v H'
  | .bk s' => ∀ W' t' H', Step W (Ow s t) H W' (Ow s' t') H' → Lent s s' t t' → Rel W' s' t' H' → D.bk t' H'
  | .ct s' => ∀ W' t' H', Step W (Ow s t) H W' (Ow s' t') H' → Lent s s' t t' → Rel W' s' t' H' → D.ct t' H'
  | .ex e s' => ∀ c dd W' t' H', Step W (Ow s t) H W' (Ow s' t') H' → Lent s s' t t' → Rel W' s' t' H' → RepX W' e c dd → Wx c dd t' H'
  | .bad => False
def tS (K : PySem.W.Frag) (mg : Str → Option Value) (Wx : WX) (f : S → OutS) : TS := fun D t H => ∃ W s, W.of K mg ∧ Rel W s t H ∧ PoS W s t H Wx D (f s)
def PSD (X : Cx) (st : Stmt) (f : S → OutS) : Prop := ∀ Wx, Takes X Wx → PS X st (tS X.K X.mg Wx f)
def PSsD (X : Cx) (sts : List Stmt) (f : S → OutS) : Prop := ∀ Wx, Takes X Wx → PSs X sts (tS X.K X.mg Wx f)
theorem PS.imp {X : Cx} {st : Stmt} {t t' : TS} (h : PS X st t) (i : ∀ D s H, t' D s H → t D s H) : PS X st t' := ⟨fun pins s σ H D I q => h.run pins s σ H D I (i _ _ _ q)⟩
theorem PSs.imp {X : Cx} {st : List Stmt} {t t' : TS} (h : PSs X st t) (i : ∀ D s H, t' D s H → t D s H) : PSs X st t' := ⟨fun pins s σ H D I q => h.run pins s σ H D I (i _ _ _ q)⟩

theorem PoS.from {W W1 : Wd} {s s1 : S} {t t1 : St} {H H1 : Hp} {Wx : WX} {D : Ends} {out : OutS} (st : Step W (Ow s t) H W1 (Ow s1 t1) H1) (ln : Lent s s1 t t1) (h : PoS W s t H Wx D out) : PoS W1 s1 t1 H1 Wx D out := by
  have nw : ∀ x, New s1 t1 H1 x → New s t H x := fun x z => z.elim (fun z => .inl (st.back z)) fun z => (st.newO x z).elim .inr .inl
  cases out with
  | nx s' => exact fun W' t' H' st2 ln2 R => h W' t' H' (st.trans st2) (ln.trans ln2) R
  | rt d fr s' => exact fun v W' t' H' st2 ln2 R rv => h v W' t' H' (st.trans st2) (ln.trans ln2) R (kV.base nw rv)
  | bk s' => exact fun W' t' H' st2 ln2 R => h W' t' H' (st.trans st2) (ln.trans ln2) R
  | ct s' => exact fun W' t' H' st2 ln2 R => h W' t' H' (st.trans st2) (ln.trans ln2) R
  | ex e s' => exact fun c dd W' t' H' st2 ln2 R rx => h c dd W' t' H' (st.trans st2) (ln.trans ln2) R rx
  | bad => exact h
/-- an expression, then a statement's end -/
def Ou.thn {α : Type} (o : Ou α) (k : α → S → OutS) : OutS := match o with
  | .ok a s => k a s
  | .ex e s => .ex e s
  | .bad => .bad
@[simp] theorem Ou.thn_ok {α : Type} (a : α) (s : S) (k : α → S → OutS) : (Ou.ok a s).thn k = k a s := id rfl
@[simp] theorem Ou.thn_ex {α : Type} (e : Xn) (s : S) (k : α → S → OutS) : (Ou.ex e s).thn k = .ex e s := id rfl
@[simp] theorem Ou.thn_bad {α : Type} (k : α → S → OutS) : (Ou.bad : Ou α).thn k = .bad := id rfl
def OutS.seq (o : OutS) (k : S → OutS) : OutS := match o with
  | .nx s => k s
  | o => o
@[simp] theorem OutS.seq_nx (s : S) (k : S → OutS) : (OutS.nx s).seq k = k s := id rfl
@[simp] theorem OutS.seq_rt (d : D) (fr : Bool) (s : S) (k : S → OutS) : (OutS.rt d fr s).seq k = .rt d fr s := id rfl
@[simp] theorem OutS.seq_bk (s : S) (k : S → OutS) : (OutS.bk s).seq k = .bk s := id rfl
@[simp] theorem OutS.seq_ct (s : S) (k : S → OutS) : (OutS.ct s).seq k = .ct s := id rfl
@[simp] theorem OutS.seq_ex (e : Xn) (s : S) (k : S → OutS) : (OutS.ex e s).seq k = .ex e s := id rfl
@[simp] theorem OutS.seq_bad (k : S → OutS) : OutS.bad.seq k = .bad := id rfl
theorem PoS.thn {α β : Type} {k : Rk α β} {W : Wd} {s : S} {t : St} {H : Hp} {Wx : WX} {D : Ends} {o : Ou α} {f : α → S → OutS} {R2 : β → Hp → Prop} (h : PoS W s t H Wx D (o.thn f))
    (i : ∀ a b s1 W1 H1, Step W (Ow s t) H W1 (Ow s1 t) H1 → Lent s s1 t t → Rel W1 s1 t H1 → k.rp W1 s1 t (New s t H) H1 a b → PoS W1 s1 t H1 Wx D (f a s1) → R2 b H1) : Po k W s t H Wx R2 o := by
  cases o with
  | ok a s1 => exact fun b W' H' st ln R rp => i a b s1 W' H' st ln R rp (PoS.from (out := f a s1) st ln h)
  | ex e s1 => exact fun c dd W' H' st ln R rx => h c dd W' t H' st ln R rx
  | bad => exact h
theorem PoS.seq {W : Wd} {s : S} {t : St} {H : Hp} {Wx : WX} {D : Ends} {o : OutS} {f : S → OutS} {N : St → Hp → Prop} (h : PoS W s t H Wx D (o.seq f))
    (i : ∀ s1 W1 t1 H1, Step W (Ow s t) H W1 (Ow s1 t1) H1 → Lent s s1 t t1 → Rel W1 s1 t1 H1 → PoS W1 s1 t1 H1 Wx D (f s1) → N t1 H1) : PoS W s t H Wx { D with nx := N } o := by
  cases o with
  | nx s1 => exact fun W' t' H' st ln R => i s1 W' t' H' st ln R (PoS.from (out := f s1) st ln h)
  | rt d fr s' => exact h
  | bk s' => exact h
  | ct s' => exact h
  | ex e s' => exact h
  | bad => exact h
theorem PoS.nxt {W : Wd} {s : S} {t : St} {H : Hp} {Wx : WX} {D : Ends} (h : PoS W s t H Wx D (.nx s)) (R : Rel W s t H) : D.nx t H := h W t H .refl .refl R

section
variable {X : Cx} {a b c e o : Expr} {es : List Expr} {pos apos cpos : Pos} {st : Stmt} {sts : List Stmt} {f g : S → OutS}
def sNil : S → OutS := fun s => .nx s
def sSeq (f g : S → OutS) : S → OutS := fun s => (f s).seq g
theorem PSsD.nil : PSsD X [] sNil := fun Wx tk => PSs.imp pss_nil fun D t H ⟨W, s, o, R, q⟩ => PoS.nxt q R
theorem PSsD.cons (h1 : PSD X st f) (h2 : PSsD X sts g) : PSsD X (st :: sts) (sSeq f g) := fun Wx tk =>
  PSs.imp (pss_cons (h1 Wx tk) (h2 Wx tk)) fun D t H ⟨W, s, o, R, q⟩ => ⟨W, s, o, R, PoS.seq q fun s1 W1 t1 H1 st ln R1 q1 => ⟨W1, s1, o.le st.le, R1, q1⟩⟩
theorem PSsD.one (h1 : PSD X st f) : PSsD X [st] f := fun Wx tk => pss_one (h1 Wx tk)
theorem PSD.pass : PSD X (.Pass pos) sNil := fun Wx tk => PS.imp ps_pass fun D t H ⟨W, s, o, R, q⟩ => PoS.nxt q R
theorem PSD.brk : PSD X (.Break pos) (fun s => .bk s) := fun Wx tk => PS.imp ps_break fun D t H ⟨W, s, o, R, q⟩ => q W t H .refl .refl R
theorem PSD.cont : PSD X (.Continue pos) (fun s => .ct s) := fun Wx tk => PS.imp ps_continue fun D t H ⟨W, s, o, R, q⟩ => q W t H .refl .refl R
def sExpr {α : Type} (f : S → Ou α) : S → OutS := fun s => (f s).thn fun _ s1 => .nx s1
theorem PSD.expr {α : Type} {k : Rk α V} {f : S → Ou α} (he : PD k X e f) (hs : swapsWith e none pos.line X.env = pure false) : PSD X (.Expr e pos) (sExpr f) := fun Wx tk =>
  PS.imp (ps_expr (he Wx tk) hs) fun D t H ⟨W, s, o, R, q⟩ => ⟨W, s, o, R, PoS.thn q fun a v s1 W1 H1 st ln R1 rp q1 => PoS.nxt q1 R1⟩
def sRet (f : S → Ou (D × Bool)) : S → OutS := fun s => (f s).thn fun a s1 => .rt a.1 a.2 s1
theorem PSD.ret {f : S → Ou (D × Bool)} (he : PD kV X e f) : PSD X (.Return (some e) pos) (sRet f) := fun Wx tk =>
  PS.imp (ps_ret (he Wx tk)) fun D t H ⟨W, s, o, R, q⟩ => ⟨W, s, o, R, by
    unfold sRet at q
    cases ef : f s with
    | ok a s1 => rw [ef] at q; exact fun v W' H' st ln R1 rp => q v W' t H' st ln R1 rp
    | ex x s1 => rw [ef] at q; exact fun c dd W' H' st ln R rx => q c dd W' t H' st ln R rx
    | bad => rw [ef] at q; exact q⟩
def sRetN : S → OutS := fun s => .rt .non false s
theorem PSD.retN : PSD X (.Return none pos) sRetN := fun Wx tk => PS.imp ps_retN fun D t H ⟨W, s, o, R, q⟩ => q .non W t H .refl .refl R (kV_F rfl)
def sIf (fc : S → Ou Bool) (f g : S → OutS) : S → OutS := fun s => (fc s).thn fun b s1 => if b = true then f s1 else g s1
theorem PSD.ite {fc : S → Ou Bool} {as bs : List Stmt} (hc : PTD kB X c fc) (ha : PSsD X as f) (hb : PSsD X bs g) : PSD X (.If c as bs pos) (sIf fc f g) := fun Wx tk =>
  PS.imp (ps_if (hc Wx tk) (ha Wx tk) (hb Wx tk)) fun D t H ⟨W, s, o, R, q⟩ => ⟨W, s, o, R, PoS.thn q fun x y s1 W1 H1 st ln R1 rx q1 => by
    cases (show x = y from rx)
    cases x with
    | true => rw [if_pos rfl]; exact ⟨W1, s1, o.le st.le, R1, q1⟩
    | false => rw [if_neg Bool.false_ne_true]; exact ⟨W1, s1, o.le st.le, R1, q1⟩⟩
end

/-! ### stores -/
/-- a value's slot -/
def slOf (d : D) (fr : Bool) : Sl := if fr = true then .own false d else .fz d
def sPut (i : Nat) (d : D) (fr : Bool) (s : S) : OutS := match s.r[i]? with
  | some (.own true _) => .bad
  | some _ => .nx (s.set i (slOf d fr))
  | none => .bad
theorem getD_set {α : Type} {l : List α} {i j : Nat} {x y : α} (h : (l.set i x)[j]? = some y) : (j = i ∧ y = x) ∨ (j ≠ i ∧ l[j]? = some y) := by
  by_cases hj : j = i
  · subst hj
    by_cases hl : j < l.length
    · rw [List.getElem?_set_self hl] at h
      exact .inl ⟨rfl, (Option.some.inj h).symm⟩
    · rw [List.getElem?_eq_none (by rw [List.length_set]; omega)] at h
      cases h
  · rw [List.getElem?_set_ne (Ne.symm hj)] at h
    exact .inr ⟨hj, h⟩
theorem own_put {s : S} {t : St} {i j : Nat} {d : D} {fr : Bool} {v : V} {a : Addr} (h : Own (s.set i (slOf d fr)) (t.set i (some v)) j a) : (j = i ∧ fr = true ∧ v = .ref a) ∨ (j ≠ i ∧ Own s t j a) := by
  obtain ⟨⟨lk, d', h1⟩, h2⟩ := h
  have h1 : (s.r.set i (slOf d fr))[j]? = some (.own lk d') := h1
  rcases getD_set h1 with ⟨e, e1⟩ | ⟨e, e1⟩
  · rcases getD_set h2 with ⟨_, e2⟩ | ⟨e', _⟩
    · refine .inl ⟨e, ?_, (Option.some.inj e2).symm⟩
      unfold slOf at e1
      split at e1
      · assumption
      · cases e1
    · exact absurd e e'
  · rcases getD_set h2 with ⟨e', _⟩ | ⟨_, e2⟩
    · exact absurd e' e
    · exact .inr ⟨e, ⟨lk, d', e1⟩, e2⟩
/-- a name is stored -/
theorem Rel.put {W : Wd} {s : S} {t : St} {H : Hp} {N0 : Addr → Prop} {i : Nat} {d : D} {fr : Bool} {v : V} (R : Rel W s t H) (rv : kV.rp W s t N0 H (d, fr) v) (hi : i < s.r.length) : Rel W (s.set i (slOf d fr)) (t.set i (some v)) H where
  hr := R.hr
  len := by rw [List.length_set]; exact (List.length_set ..).trans R.len
  fz := fun j d' q => by
    have q : (s.r.set i (slOf d fr))[j]? = some (.fz d') := q
    rcases getD_set q with ⟨rfl, e⟩ | ⟨e, q⟩
    · cases fr with
      | true => cases e
      | false =>
        have e : Sl.fz d' = .fz d := e
        cases e
        exact ⟨v, List.getElem?_set_self (by rw [← R.len]; exact hi), RepV.ofF (O := Ow s t) (N0 := N0) (H := H) rv⟩
    · obtain ⟨w, h1, h2⟩ := R.fz j d' q
      exact ⟨w, by rw [List.getElem?_set_ne (Ne.symm e)]; exact h1, h2⟩
  own := fun j lk d' q => by
    have q : (s.r.set i (slOf d fr))[j]? = some (.own lk d') := q
    rcases getD_set q with ⟨rfl, e⟩ | ⟨e, q⟩
    · cases fr with
      | false => cases e
      | true =>
        have e : Sl.own lk d' = .own false d := e
        cases e
        obtain ⟨a, o, rfl, _, hF, hi2, _, hH, ro⟩ := RepV.ofT (O := Ow s t) (N0 := N0) (H := H) rv
        exact ⟨a, o, List.getElem?_set_self (by rw [← R.len]; exact hi), hF, hi2, hH, ro⟩
    · obtain ⟨a, o, h1, h2⟩ := R.own j lk d' q
      exact ⟨a, o, by rw [List.getElem?_set_ne (Ne.symm e)]; exact h1, h2⟩
  one := fun j k a h1 h2 => by
    have nw : fr = true → v = .ref a → ¬ Ow s t a := fun ef ev => by
      subst ef ev
      obtain ⟨b, o, e, _, _, _, z, _⟩ := RepV.ofT (O := Ow s t) (N0 := N0) (H := H) rv
      cases e
      exact z
    rcases own_put h1 with ⟨e1, e2, e3⟩ | ⟨e1, o1⟩
    · rcases own_put h2 with ⟨e4, _, _⟩ | ⟨e4, o2⟩
      · exact e1.trans e4.symm
      · exact absurd ⟨k, o2⟩ (nw e2 e3)
    · rcases own_put h2 with ⟨e4, e5, e6⟩ | ⟨e4, o2⟩
      · exact absurd ⟨j, o1⟩ (nw e5 e6)
      · exact R.one j k a o1 o2
theorem Step.put {W0 W : Wd} {O0 : Addr → Prop} {s : S} {t : St} {H0 H : Hp} {N0 : Addr → Prop} {i : Nat} {d : D} {fr : Bool} {v : V} (st : Step W0 O0 H0 W (Ow s t) H) (rv : kV.rp W s t N0 H (d, fr) v) (hN : ∀ a, N0 a → O0 a ∨ H0 a = none) : Step W0 O0 H0 W (Ow (s.set i (slOf d fr)) (t.set i (some v))) H :=
  ⟨st.le, st.keep, st.dom, st.newF, st.newI, fun a ⟨j, h⟩ => by
    rcases own_put h with ⟨e1, rfl, rfl⟩ | ⟨_, o1⟩
    · obtain ⟨b, o, e, n, _⟩ := RepV.ofT (O := Ow s t) (N0 := N0) (H := H) rv
      cases e
      exact hN _ n
    · exact st.newO a ⟨j, o1⟩⟩
theorem Lent.put {s0 s : S} {t0 t : St} {i : Nat} {x : Sl} {v : Option V} (l : Lent s0 s t0 t) (h : ∀ d, s.r[i]? ≠ some (.own true d)) : Lent s0 (s.set i x) t0 (t.set i v) := fun j d q => by
  obtain ⟨q1, q2⟩ := l j d q
  have hj : j ≠ i := fun e => h d (e ▸ q1)
  refine ⟨?_, by rw [List.getElem?_set_ne (Ne.symm hj)]; exact q2⟩
  show (s.r.set i x)[j]? = _
  rw [List.getElem?_set_ne (Ne.symm hj)]
  exact q1
theorem PoS.put {W0 : Wd} {s0 : S} {t : St} {H0 : Hp} {Wx : WX} {D : Ends} {W : Wd} {s : S} {H : Hp} {i : Nat} {d : TD.D} {fr : Bool} {v : V} (st : Step W0 (Ow s0 t) H0 W (Ow s t) H) (ln : Lent s0 s t t) (R : Rel W s t H) (rv : kV.rp W s t (New s0 t H0) H (d, fr) v)
    (h : PoS W0 s0 t H0 Wx D (sPut i d fr s)) : D.nx (t.set i (some v)) H := by
  unfold sPut at h
  split at h
  · exact False.elim h
  · rename_i x hx e
    have nl : ∀ d, s.r[i]? ≠ some (.own true d) := fun d' z => by
      rw [e] at z
      exact hx d' (Option.some.inj z)
    exact h W _ H (st.put rv fun a z => z.symm) (ln.put nl) (R.put rv (List.getElem?_eq_some_iff.mp e).1)
  · exact False.elim h
def sSet (i : Nat) (f : S → Ou (D × Bool)) : S → OutS := fun s => (f s).thn fun a s1 => sPut i a.1 a.2 s1
section
variable {X : Cx} {e : Expr} {pos : Pos}
theorem tS_set {K : PySem.W.Frag} {mg : Str → Option Value} {Wx : WX} {i : Nat} {f : S → Ou (D × Bool)} {D : Ends} {t : St} {H : Hp} (h : tS K mg Wx (sSet i f) D t H) : tD kV K mg Wx f t H fun x H1 => D.nx (t.set i (some x)) H1 := by
  obtain ⟨W, s, o, R, q⟩ := h
  refine ⟨W, s, o, R, ?_⟩
  unfold sSet at q
  cases ef : f s with
  | ok a s1 =>
    rw [ef] at q
    exact fun v W' H' st ln R1 rp => PoS.put (d := a.1) (fr := a.2) st ln R1 rp q
  | ex x s1 => rw [ef] at q; exact fun c dd W' H' st ln R rx => q c dd W' t H' st ln R rx
  | bad => rw [ef] at q; exact q
theorem PSD.set {i : Nat} {x : Str} {pos' : Pos} {f : S → Ou (D × Bool)} (hN : X.N.Nodup) (hi : X.N[i]? = some x) (hx : Loc X.env.scope x) (he : PD kV X e f) (hs : swapsWith e (some (.Name x pos')) pos.line X.env = pure false)
    (hf : X.fn x = true ∨ X.env.scope.names.lookup x = some .local) : PSD X (.Assign [.Name x pos'] e pos) (sSet i f) := fun Wx tk =>
  PS.imp (ps_set hN hi hx (he Wx tk) hs hf) fun D t H h => tS_set h
end
end TD

end
section
set_option maxRecDepth 100000
set_option maxHeartbeats 4000000
/-! TdG: walks, targets, for, while, comprehensions. -/
namespace TD
open PySem L2

/-! ### what is walked -/
/-- who holds what is walked: nobody who may change it; a name (lk: lent already); the n-th object -/
inductive Gd where
  | non | sl (i : Nat) (lk : Bool) | hp (n : Nat)
structure Wk where
  g : Gd
  node : D
  items : List D
/-- the walk goes over the items while the node stands -/
structure Walks (K : PySem.W.Frag) (Wb : Wd) (wk : Wk) (v : V) (J : It) : Prop where
  go : ∀ (i : Nat) (W : Wd) (H : Hp) (d : D), W.K = K → Wb.le W → Same W.F H → RepH W H wk.node v → wk.items[i]? = some d → J.go i H ∧ ∀ x H', J.yld i H x H' → ∃ W', Grow W H W' H' ∧ Rep W' d x
  stop : ∀ (W : Wd) (H : Hp), W.K = K → Wb.le W → Same W.F H → RepH W H wk.node v → J.stop wk.items.length H
/-- the holder holds it (lent: it is lent now) -/
def GdOk (wk : Wk) (v : V) (lent : Bool) (W : Wd) (s : S) (t : St) : Prop := match wk.g with
  | .non => Rep W wk.node v
  | .sl i lk => s.r[i]? = some (.own (lent || lk) wk.node) ∧ t[i]? = some (some v)
  | .hp n => s.h[n]? = some wk.node ∧ Rep W (.ref n) v
theorem GdOk.rep {wk : Wk} {v : V} {lent : Bool} {W : Wd} {s : S} {t : St} {H : Hp} (R : Rel W s t H) (h : GdOk wk v lent W s t) : RepH W H wk.node v := by
  unfold GdOk at h
  split at h
  · exact .inl h
  · obtain ⟨h1, h2⟩ := h
    obtain ⟨a, o, e, _, _, e2, r⟩ := R.own _ _ _ h1
    rw [h2] at e
    cases e
    exact .inr ⟨a, o, rfl, e2, r⟩
  · exact R.lookRef h.2 h.1
def kI (K : PySem.W.Frag) : Rk Wk It := ⟨fun W s t _ _ wk J => ∃ v, GdOk wk v false W s t ∧ Walks K W wk v J, fun _ h => h⟩
def tI (K : PySem.W.Frag) (mg : Str → Option Value) (Wx : WX) (f : S → Ou Wk) : TI := tD (kI K) K mg Wx f
/-- what is walked, by its mirror -/
def PID (X : Cx) (tg iter : Expr) (f : S → Ou Wk) : Prop := ∀ Wx, Takes X Wx → PI X tg iter (tI X.K X.mg Wx f)
theorem PI.imp {X : Cx} {tg iter : Expr} {w w' : TI} (h : PI X tg iter w) (i : ∀ s H R, w' s H R → w s H R) : PI X tg iter w' := ⟨fun pins s σ H R I q => h.run pins s σ H R I (i _ _ _ q)⟩

/-! ### targets -/
/-- a target's mirror: where a frozen tree goes -/
abbrev Tg := D → S → Option S
def gtName (i : Nat) : Tg := fun d s => match s.r[i]? with
  | some (.own true _) => none
  | some _ => some (s.set i (.fz d))
  | none => none
/-- a target by its mirror; vs: the names that it stores -/
structure TgOk (K : PySem.W.Frag) (g : TG) (m : Tg) (vs : List Nat) : Prop where
  run : ∀ (W : Wd) (s s' : S) (t : St) (H : Hp) (d : D) (v : V) (Q : St → Hp → Prop), W.K = K → Rel W s t H → Rep W d v → m d s = some s' →
    (∀ t', Rel W s' t' H → (∀ a, Ow s' t' a → Ow s t a) → Lent s s' t t' → (∀ j, j ∉ vs → s'.r[j]? = s.r[j]? ∧ t'[j]? = t[j]?) → s'.h = s.h → t'.length = t.length → Q t' H) → g v t H Q
structure PGD (X : Cx) (tg : Expr) (g : TG) (m : Tg) (vs : List Nat) : Prop where
  pg : PG X tg g
  ok : TgOk X.K g m vs
structure TgsOk (K : PySem.W.Frag) (g : TGs) (m : List D → S → Option S) (vs : List Nat) : Prop where
  run : ∀ (W : Wd) (s s' : S) (t : St) (H : Hp) (ds : List D) (us : List V) (Q : St → Hp → Prop), W.K = K → Rel W s t H → Reps W ds us → m ds s = some s' →
    (∀ t', Rel W s' t' H → (∀ a, Ow s' t' a → Ow s t a) → Lent s s' t t' → (∀ j, j ∉ vs → s'.r[j]? = s.r[j]? ∧ t'[j]? = t[j]?) → s'.h = s.h → t'.length = t.length → Q t' H) → g us t H Q
structure PGsD (X : Cx) (tgs : List Expr) (g : TGs) (m : List D → S → Option S) (vs : List Nat) : Prop where
  pg : PGs X tgs g
  ok : TgsOk X.K g m vs
theorem tgok_name {K : PySem.W.Frag} {i : Nat} : TgOk K (gName i) (gtName i) [i] := ⟨fun W s s' t H d v Q hK R r h q => by
  unfold gtName at h
  split at h
  · cases h
  · rename_i x hx e
    cases h
    have rv : kV.rp W s t (New s t H) H (d, false) v := kV_F r
    have hi := (List.getElem?_eq_some_iff.mp e).1
    refine q (t.set i (some v)) (R.put (d := d) (fr := false) rv hi) (fun a ⟨j, ho⟩ => ?_) (Lent.put .refl fun d' z => by rw [e] at z; exact hx d' (Option.some.inj z)) (fun j hj => ?_) rfl (List.length_set ..)
    · rcases own_put (d := d) (fr := false) ho with ⟨_, z, _⟩ | ⟨_, z⟩
      · cases z
      · exact ⟨j, z⟩
    · have hj : i ≠ j := fun z => hj (by rw [z]; exact List.mem_singleton.mpr rfl)
      exact ⟨List.getElem?_set_ne hj, List.getElem?_set_ne hj⟩
  · cases h⟩
def gtNil : List D → S → Option S := fun ds s => match ds with
  | [] => some s
  | _ => none
def gtCons (m : Tg) (ms : List D → S → Option S) : List D → S → Option S := fun ds s => match ds with
  | d :: r => match m d s with
    | some s1 => ms r s1
    | none => none
  | _ => none
def gtTup (n : Nat) (ms : List D → S → Option S) : Tg := fun d s => match d with
  | .nd .tup ds => if ds.length = n then ms ds s else none
  | _ => none
section
variable {X : Cx} {e : Expr} {es : List Expr} {pos : Pos}
theorem PGD.name {i : Nat} {x : Str} (hN : X.N.Nodup) (hi : X.N[i]? = some x) (hx : Loc X.env.scope x) (hf : X.fn x = true ∨ X.env.scope.names.lookup x = some .local) : PGD X (.Name x pos) (gName i) (gtName i) [i] := ⟨pg_name hN hi hx hf, tgok_name⟩
theorem PGsD.nil : PGsD X [] gNil gtNil [] := ⟨pgs_nil, ⟨fun W s s' t H ds us Q hK R r h q => by
  cases ds with
  | nil =>
    cases h
    exact ⟨r, q t R (fun _ h => h) .refl (fun _ _ => ⟨rfl, rfl⟩) rfl rfl⟩
  | cons d ds => cases h⟩⟩
theorem PGsD.cons {m : Tg} {ms : List D → S → Option S} {vs ws : List Nat} {g : TG} {gs : TGs} (h1 : PGD X e g m vs) (h2 : PGsD X es gs ms ws) (hs : (assignEach (e :: es) X.env).map (·.2) = assign e X.env :: (assignEach es X.env).map (·.2)) : PGsD X (e :: es) (gCons g gs) (gtCons m ms) (vs ++ ws) := by
  obtain ⟨pg, ok⟩ := h1
  obtain ⟨pgs, oks⟩ := h2
  refine ⟨pgs_cons pg pgs hs, ⟨fun W s s' t H ds us Q hK R r h q => ?_⟩⟩
  cases ds with
  | nil => cases h
  | cons d ds =>
    obtain ⟨v, rest, rfl, r1, r2⟩ := r
    unfold gtCons at h
    dsimp only at h
    split at h
    · rename_i s1 e1
      refine ⟨v, rest, rfl, ok.run W s s1 t H d v _ hK R r1 e1 fun t1 R1 o1 l1 f1 z1 n1 => oks.run W s1 s' t1 H ds rest Q hK R1 r2 h fun t2 R2 o2 l2 f2 z2 n2 => ?_⟩
      refine q t2 R2 (fun a z => o1 a (o2 a z)) (l1.trans l2) (fun j hj => ?_) (z2.trans z1) (n2.trans n1)
      obtain ⟨a1, a2⟩ := f1 j fun z => hj (List.mem_append_left _ z)
      obtain ⟨b1, b2⟩ := f2 j fun z => hj (List.mem_append_right _ z)
      exact ⟨b1.trans a1, b2.trans a2⟩
    · cases h
end
section
variable {X : Cx} {es : List Expr} {pos : Pos}
theorem PGD.tup {k : Nat} {ms : List D → S → Option S} {vs : List Nat} {n : Nat} {gs : TGs} (hc : X.calm = true) (h : PGsD X es gs ms vs) (hn : (assignEach es X.env).length = n) (hst : (assignEach es X.env).findIdx? (·.1) = none) : PGD X (.Tuple es k pos) (gTup X.K n gs) (gtTup n ms) vs := by
  obtain ⟨pgs, oks⟩ := h
  refine ⟨pg_tup hc pgs hn hst, ⟨fun W s s' t H d v Q hK R r h q => ?_⟩⟩
  unfold gtTup at h
  split at h
  · rename_i ds
    split at h
    · rename_i hl
      obtain ⟨a, xs, rfl, hH, rs⟩ := RepH.tup R.hr.same (.inl r)
      exact ⟨a, xs, rfl, SqT.of hH, rs.length.trans hl, oks.run W s s' t H ds xs Q hK R rs h q⟩
    · cases h
  · cases h
end

/-! ### for -/
open Classical in
/-- the holder holds it still -/
noncomputable def Gd.still (g : Gd) (node : D) (s : S) : Bool := match g with
  | .hp n => decide (s.h[n]? = some node)
  | _ => true
open Classical in
theorem still_hp {n : Nat} {node : D} {s : S} : Gd.still (.hp n) node s = true ↔ s.h[n]? = some node := by
  unfold Gd.still
  exact decide_eq_true_iff
def Gd.lend (g : Gd) (node : D) (s : S) : S := match g with
  | .sl i _ => s.set i (.own true node)
  | _ => s
def Gd.unlend (g : Gd) (node : D) (s : S) : S := match g with
  | .sl i lk => s.set i (.own lk node)
  | _ => s
def OutS.fin (o : OutS) (f : S → S) : OutS := match o with
  | .nx s => .nx (f s)
  | .rt d fr s => .rt d fr s
  | .bk s => .bk (f s)
  | .ct s => .ct (f s)
  | .ex e s => .ex e (f s)
  | .bad => .bad
noncomputable def forL (g : Gd) (node : D) (m : Tg) (body : S → OutS) : List D → S → OutS
  | [], s => .nx (g.unlend node s)
  | d :: ds, s => match m d s with
    | none => .bad
    | some s1 => match body s1 with
      | .nx s2 => if g.still node s2 = true then forL g node m body ds s2 else .bad
      | .ct s2 => if g.still node s2 = true then forL g node m body ds s2 else .bad
      | .bk s2 => if g.still node s2 = true then .nx (g.unlend node s2) else .bad
      | .rt d fr s2 => .rt d fr s2
      | .ex e s2 => if g.still node s2 = true then .ex e (g.unlend node s2) else .bad
      | .bad => .bad
noncomputable def sFor (it : S → Ou Wk) (m : Tg) (body : S → OutS) : S → OutS := fun s => (it s).thn fun wk s1 => forL wk.g wk.node m body wk.items (wk.g.lend wk.node s1)

theorem Rel.mark {W : Wd} {s : S} {t : St} {H : Hp} {i : Nat} {lk lk' : Bool} {d : D} (R : Rel W s t H) (h : s.r[i]? = some (.own lk d)) : Rel W (s.set i (.own lk' d)) t H ∧ (∀ a, Ow (s.set i (.own lk' d)) t a ↔ Ow s t a) := by
  have hi := (List.getElem?_eq_some_iff.mp h).1
  have ho : ∀ j a, Own (s.set i (.own lk' d)) t j a ↔ Own s t j a := fun j a => by
    constructor
    · rintro ⟨⟨l, e, h1⟩, h2⟩
      have h1 : (s.r.set i (.own lk' d))[j]? = some (.own l e) := h1
      rcases getD_set h1 with ⟨rfl, _⟩ | ⟨_, q⟩
      · exact ⟨⟨lk, d, h⟩, h2⟩
      · exact ⟨⟨l, e, q⟩, h2⟩
    · rintro ⟨⟨l, e, h1⟩, h2⟩
      by_cases hj : j = i
      · subst hj
        exact ⟨⟨lk', d, List.getElem?_set_self hi⟩, h2⟩
      · exact ⟨⟨l, e, (List.getElem?_set_ne (Ne.symm hj)).trans h1⟩, h2⟩
  refine ⟨⟨R.hr, (List.length_set ..).trans R.len, fun j e q => ?_, fun j l e q => ?_, fun j k a h1 h2 => R.one j k a ((ho j a).mp h1) ((ho k a).mp h2)⟩, fun a => ⟨fun ⟨j, z⟩ => ⟨j, (ho j a).mp z⟩, fun ⟨j, z⟩ => ⟨j, (ho j a).mpr z⟩⟩⟩
  · have q : (s.r.set i (.own lk' d))[j]? = some (.fz e) := q
    rcases getD_set q with ⟨_, z⟩ | ⟨_, z⟩
    · cases z
    · exact R.fz j e z
  · have q : (s.r.set i (.own lk' d))[j]? = some (.own l e) := q
    rcases getD_set q with ⟨rfl, z⟩ | ⟨_, z⟩
    · cases z
      exact R.own _ lk d h
    · exact R.own j l e z
theorem Step.ow {W W' : Wd} {O O' O1 O2 : Addr → Prop} {H H' : Hp} (s : Step W O H W' O' H') (h1 : ∀ a, O a ↔ O1 a) (h2 : ∀ a, O2 a → O' a) : Step W O1 H W' O2 H' :=
  s.own (fun a z => (h1 a).mp z) fun a z => (s.newO a (h2 a z)).imp (h1 a).mp id
/-- lent, or as it was -/
theorem GdOk.lend {wk : Wk} {v : V} {W : Wd} {s : S} {t : St} {H : Hp} (R : Rel W s t H) (h : GdOk wk v false W s t) : GdOk wk v true W (wk.g.lend wk.node s) t ∧ Rel W (wk.g.lend wk.node s) t H ∧ (∀ a, Ow (wk.g.lend wk.node s) t a ↔ Ow s t a) ∧ Lent s (wk.g.lend wk.node s) t t := by
  unfold GdOk at h ⊢
  unfold Gd.lend
  cases e : wk.g with
  | non => rw [e] at h; exact ⟨h, R, fun _ => .rfl, .refl⟩
  | hp n => rw [e] at h; exact ⟨h, R, fun _ => .rfl, .refl⟩
  | sl i lk =>
    rw [e] at h
    obtain ⟨h1, h2⟩ := h
    obtain ⟨R1, o⟩ := R.mark (lk' := true) h1
    refine ⟨⟨List.getElem?_set_self (List.getElem?_eq_some_iff.mp h1).1, h2⟩, R1, o, fun j d q => ⟨?_, rfl⟩⟩
    show (s.r.set i (.own true wk.node))[j]? = _
    by_cases hj : j = i
    · subst hj
      rw [h1] at q
      cases q
      exact List.getElem?_set_self (List.getElem?_eq_some_iff.mp h1).1
    · rw [List.getElem?_set_ne (Ne.symm hj)]
      exact q
theorem GdOk.unlend {wk : Wk} {v : V} {W : Wd} {s : S} {t : St} {H : Hp} (R : Rel W s t H) (h : GdOk wk v true W s t) : Rel W (wk.g.unlend wk.node s) t H ∧ (∀ a, Ow (wk.g.unlend wk.node s) t a ↔ Ow s t a) := by
  unfold GdOk at h
  unfold Gd.unlend
  cases e : wk.g with
  | non => exact ⟨R, fun _ => .rfl⟩
  | hp n => exact ⟨R, fun _ => .rfl⟩
  | sl i lk => rw [e] at h; exact R.mark h.1
open Classical in
/-- behind a body -/
theorem GdOk.after {wk : Wk} {v : V} {W W' : Wd} {s s' : S} {t t' : St} (l : W.le W') (ln : Lent s s' t t') (st : wk.g.still wk.node s' = true) (h : GdOk wk v true W s t) : GdOk wk v true W' s' t' := by
  unfold GdOk at h ⊢
  cases e : wk.g with
  | non => rw [e] at h; exact Rep.mono l h
  | sl i lk =>
    rw [e] at h
    obtain ⟨h1, h2⟩ := h
    obtain ⟨l1, l2⟩ := ln i wk.node h1
    exact ⟨l1, l2.trans h2⟩
  | hp n =>
    rw [e] at h
    rw [e] at st
    exact ⟨still_hp.mp st, Rep.mono l h.2⟩
/-- what was lent ahead of the loop is lent behind it -/
theorem Lent.unlend {wk : Wk} {v : V} {W : Wd} {s0 s : S} {t0 t : St} (h0 : GdOk wk v false W s0 t0) (h : GdOk wk v true W s t) (l : Lent s0 s t0 t) : Lent s0 (wk.g.unlend wk.node s) t0 t := by
  unfold GdOk at h h0
  unfold Gd.unlend
  cases e : wk.g with
  | non => exact l
  | hp n => exact l
  | sl i lk =>
    rw [e] at h h0
    intro j d q
    obtain ⟨l1, l2⟩ := l j d q
    refine ⟨?_, l2⟩
    show (s.r.set i (.own lk wk.node))[j]? = _
    by_cases hj : j = i
    · subst hj
      have h01 := h0.1
      rw [q] at h01
      have h01 := Option.some.inj h01
      have e1 : true = (false || lk) := by injection h01
      have e2 : d = wk.node := by injection h01
      rw [List.getElem?_set_self (List.getElem?_eq_some_iff.mp h.1).1, e2]
      cases lk with
      | true => rfl
      | false => cases e1
    · rw [List.getElem?_set_ne (Ne.symm hj)]
      exact l1
theorem GdOk.le {wk : Wk} {v : V} {b : Bool} {W W' : Wd} {s : S} {t : St} (l : W.le W') (h : GdOk wk v b W s t) : GdOk wk v b W' s t := by
  unfold GdOk at h ⊢
  split at h
  · exact Rep.mono l h
  · exact h
  · exact ⟨h.1, Rep.mono l h.2⟩
theorem Grow.after {W W1 : Wd} {O O1 : Addr → Prop} {H H1 : Hp} {W2 : Wd} {H2 : Hp} (s : Step W O H W1 O1 H1) (g : Grow W1 H1 W2 H2) : Step W O H W2 O1 H2 := s.trans g.step

section
variable {X : Cx} {iter tg : Expr} {body : List Stmt} {pos : Pos}
theorem tS_for {K : PySem.W.Frag} {mg : Str → Option Value} {Wx : WX} {it : S → Ou Wk} {m : Tg} {vs : List Nat} {g : TG} {fb : S → OutS} {D : Ends} {t : St} {H : Hp} (hg : TgOk K g m vs) (h : tS K mg Wx (sFor it m fb) D t H) : tFor (tI K mg Wx it) g (tS K mg Wx fb) D t H := by
  obtain ⟨W0, s00, o0, R0, q0⟩ := h
  refine ⟨W0, s00, o0, R0, PoS.thn q0 fun wk J s0 W1 H0 st0 ln0 R1 rk q => ?_⟩
  obtain ⟨v, g0, wks⟩ := (show ∃ v, GdOk wk v false W1 s0 t ∧ Walks K W1 wk v J from rk)
  have o1 := o0.le st0.le
  obtain ⟨gl, Rl, ol, ll⟩ := g0.lend R1
  refine ⟨fun i mm t' H' => mm = wk.items.length - i ∧ i ≤ wk.items.length ∧ ∃ W s, W.of K mg ∧ Rel W s t' H' ∧ GdOk wk v true W s t' ∧ Step W1 (Ow s0 t) H0 W (Ow s t') H' ∧ Lent s0 s t t' ∧ PoS W1 s0 t H0 Wx D (forL wk.g wk.node m fb (wk.items.drop i) s),
    ⟨wk.items.length, by simp, Nat.zero_le _, W1, _, o1, Rl, gl, Step.refl.ow (fun _ => .rfl) (fun a z => (ol a).mp z), ll, by rw [List.drop_zero]; exact q⟩, ?_⟩
  rintro i mm t' H' ⟨rfl, hi, W, s, o, R, gd, st, ln, q⟩
  by_cases hlt : i < wk.items.length
  · have e : wk.items[i]? = some wk.items[i] := List.getElem?_eq_getElem hlt
    rw [List.drop_eq_getElem_cons hlt] at q
    obtain ⟨hgo, hy⟩ := wks.go i W H' _ o.K st.le R.hr.same (gd.rep R) e
    refine .inr ⟨hgo, fun t2 H2 => ∃ W s, W.of K mg ∧ Rel W s t2 H2 ∧ GdOk wk v true W s t2 ∧ Step W1 (Ow s0 t) H0 W (Ow s t2) H2 ∧ Lent s0 s t t2 ∧ PoS W1 s0 t H0 Wx D (forL wk.g wk.node m fb (wk.items.drop (i + 1)) s), fun t2 H2 z => ⟨wk.items.length - (i + 1), by omega, rfl, hlt, z⟩, fun x H2 y => ?_⟩
    obtain ⟨W2, gr, rx⟩ := hy x H2 y
    unfold forL at q
    split at q
    · exact False.elim q
    · rename_i s1 em
      refine hg.run W2 s s1 t' H2 _ x _ (o.le gr.le).K (gr.rel R) rx em fun t1 R2 ow1 ln1 _ hh _ => ?_
      have o2 := o.le gr.le
      have st2 : Step W1 (Ow s0 t) H0 W2 (Ow s1 t1) H2 := (Grow.after st gr).ow (fun _ => .rfl) ow1
      have gd2 : GdOk wk v true W2 s1 t1 := by
        refine gd.after gr.le ln1 ?_
        cases eg : wk.g with
        | hp n =>
          have z := gd
          unfold GdOk at z
          rw [eg] at z
          exact still_hp.mpr (by rw [hh]; exact z.1)
        | _ => rfl
      refine ⟨W2, s1, o2, R2, ?_⟩
      have nwm : ∀ x, New s1 t1 H2 x → New s0 t H0 x := fun x z => z.elim (fun z => .inl (st2.back z)) fun z => (st2.newO x z).elim .inr .inl
      have ln2 := ln.trans ln1
      cases eb : fb s1 with
      | nx s2 =>
        rw [eb] at q
        dsimp only at q
        split at q
        · rename_i hs
          exact fun W3 t3 H3 st3 ln3 R3 => ⟨W3, s2, o2.le st3.le, R3, gd2.after st3.le ln3 hs, st2.trans st3, ln2.trans ln3, q⟩
        · exact False.elim q
      | ct s2 =>
        rw [eb] at q
        dsimp only at q
        split at q
        · rename_i hs
          exact fun W3 t3 H3 st3 ln3 R3 => ⟨W3, s2, o2.le st3.le, R3, gd2.after st3.le ln3 hs, st2.trans st3, ln2.trans ln3, q⟩
        · exact False.elim q
      | bk s2 =>
        rw [eb] at q
        dsimp only at q
        split at q
        · rename_i hs
          intro W3 t3 H3 st3 ln3 R3
          have gd3 := gd2.after st3.le ln3 hs
          obtain ⟨Ru, ou⟩ := gd3.unlend R3
          exact q W3 t3 H3 ((st2.trans st3).ow (fun _ => .rfl) fun a z => (ou a).mp z) (Lent.unlend (g0.le (st.le.trans (gr.le.trans st3.le))) gd3 (ln2.trans ln3)) Ru
        · exact False.elim q
      | rt d fr s2 =>
        rw [eb] at q
        exact fun v3 W3 t3 H3 st3 ln3 R3 rv => q v3 W3 t3 H3 (st2.trans st3) (ln2.trans ln3) R3 (kV.base nwm rv)
      | ex e s2 =>
        rw [eb] at q
        dsimp only at q
        split at q
        · rename_i hs
          intro c dd W3 t3 H3 st3 ln3 R3 rx3
          have gd3 := gd2.after st3.le ln3 hs
          obtain ⟨Ru, ou⟩ := gd3.unlend R3
          exact q c dd W3 t3 H3 ((st2.trans st3).ow (fun _ => .rfl) fun a z => (ou a).mp z) (Lent.unlend (g0.le (st.le.trans (gr.le.trans st3.le))) gd3 (ln2.trans ln3)) Ru rx3
        · exact False.elim q
      | bad => rw [eb] at q; exact False.elim q
  · have e : i = wk.items.length := by omega
    subst e
    rw [List.drop_length] at q
    obtain ⟨Ru, ou⟩ := gd.unlend R
    exact .inl ⟨wks.stop W H' o.K st.le R.hr.same (gd.rep R), q W t' H' (st.ow (fun _ => .rfl) fun a z => (ou a).mp z) (Lent.unlend (g0.le st.le) gd ln) Ru⟩
theorem PSD.for {it : S → Ou Wk} {m : Tg} {g : TG} {vs : List Nat} {fb : S → OutS} (hp : PassesOwn (model X.prog X.w) X.A X.env X.xe) (hc : X.calm = true) (hi : PID X tg iter it) (hg : PGD X tg g m vs) (hb : PSsD X body fb)
    (hs : ∀ x, foldedSetIterable iter X.env x = pure x) : PSD X (.For tg iter body [] pos) (sFor it m fb) := fun Wx tk => by
  obtain ⟨pg, ok⟩ := hg
  exact PS.imp (ps_for hp hc (hi Wx tk) pg (hb Wx tk) hs) fun D t H h => tS_for ok h
end
end TD

end
section
set_option maxRecDepth 100000
set_option maxHeartbeats 4000000
/-! TdH: while, comprehensions, walks. -/
namespace TD
open PySem L2

/-! ### while -/
def whileN (fc : S → Ou Bool) (fb : S → OutS) : Nat → S → OutS
  | 0, _ => .bad
  | n + 1, s => (fc s).thn fun b s1 => if b = true then (match fb s1 with
      | .nx s2 => whileN fc fb n s2
      | .ct s2 => whileN fc fb n s2
      | .bk s2 => .nx s2
      | o => o) else .nx s1
noncomputable def turns : Nat := hide 1000000
theorem turns_eq : turns = 1000000 := hide_eq _
noncomputable def sWhile (fc : S → Ou Bool) (fb : S → OutS) : S → OutS := whileN fc fb turns
section
variable {X : Cx} {c : Expr} {body : List Stmt} {pos : Pos}
theorem tS_while {K : PySem.W.Frag} {mg : Str → Option Value} {Wx : WX} {fc : S → Ou Bool} {fb : S → OutS} {D : Ends} {t : St} {H : Hp} (h : tS K mg Wx (sWhile fc fb) D t H) : tWhile (tD kB K mg Wx fc) (tS K mg Wx fb) D t H := by
  obtain ⟨W0, s0, o0, R0, q0⟩ := h
  refine ⟨fun m t' H' => ∃ W s, W.of K mg ∧ Rel W s t' H' ∧ PoS W s t' H' Wx D (whileN fc fb m s), ⟨turns, W0, s0, o0, R0, q0⟩, ?_⟩
  rintro m t' H' ⟨W, s, o, R, q⟩
  cases m with
  | zero => exact False.elim q
  | succ m =>
    unfold whileN at q
    refine ⟨W, s, o, R, PoS.thn q fun b b' s1 W1 H1 st1 ln1 R1 rb q1 => ?_⟩
    cases (show b = b' from rb)
    cases b with
    | false =>
      rw [if_neg Bool.false_ne_true] at q1 ⊢
      exact PoS.nxt q1 R1
    | true =>
      rw [if_pos rfl] at q1 ⊢
      have o1 := o.le st1.le
      refine ⟨fun t2 H2 => ∃ W s, W.of K mg ∧ Rel W s t2 H2 ∧ PoS W s t2 H2 Wx D (whileN fc fb m s), fun t2 H2 z => ⟨m, Nat.lt_succ_self m, z⟩, W1, s1, o1, R1, ?_⟩
      cases eb : fb s1 with
      | nx s2 => rw [eb] at q1; exact fun W3 t3 H3 st3 ln3 R3 => ⟨W3, s2, o1.le st3.le, R3, PoS.from (out := whileN fc fb m s2) st3 ln3 q1⟩
      | ct s2 => rw [eb] at q1; exact fun W3 t3 H3 st3 ln3 R3 => ⟨W3, s2, o1.le st3.le, R3, PoS.from (out := whileN fc fb m s2) st3 ln3 q1⟩
      | bk s2 => rw [eb] at q1; exact fun W3 t3 H3 st3 ln3 R3 => q1 W3 t3 H3 st3 ln3 R3
      | rt d fr s2 => rw [eb] at q1; exact q1
      | ex e s2 => rw [eb] at q1; exact q1
      | bad => rw [eb] at q1; exact False.elim q1
theorem PSD.while {fc : S → Ou Bool} {fb : S → OutS} (hp : PassesOwn (model X.prog X.w) X.A X.env X.xe) (hc : PTD kB X c fc) (hb : PSsD X body fb) : PSD X (.While c body [] pos) (sWhile fc fb) := fun Wx tk =>
  PS.imp (ps_while hp (hc Wx tk) (hb Wx tk)) fun D t H h => tS_while h
end

/-! ### comprehensions -/
/-- the block's names are not one's own nodes -/
def S.bare (s : S) (vs : List Nat) : Bool := vs.all fun i => match s.r[i]? with
  | some (.own _ _) => false
  | some _ => true
  | none => false
def S.wipe (s : S) : List Nat → S
  | [] => s
  | v :: vs => (s.wipe vs).set v .un
/-- the names as they were -/
def S.back (s0 s : S) : List Nat → S
  | [] => s
  | v :: vs => match s0.r[v]? with
    | some x => (S.back s0 s vs).set v x
    | none => S.back s0 s vs
noncomputable def lcL (g : Gd) (node : D) (vs : List Nat) (s0 : S) (m : Tg) (fc : S → Ou Bool) (fe : S → Ou D) : List D → List D → S → Ou (D × Bool)
  | [], acc, s => .ok (.nd .lst acc, true) (g.unlend node (S.back s0 s vs))
  | d :: ds, acc, s => match m d s with
    | none => .bad
    | some s1 => match fc s1 with
      | .ok true s2 => match fe s2 with
        | .ok y s3 => if g.still node s3 = true ∧ acc.length < sizeLine then lcL g node vs s0 m fc fe ds (acc ++ [y]) (s3.wipe vs) else .bad
        | _ => .bad
      | .ok false s2 => if g.still node s2 = true then lcL g node vs s0 m fc fe ds acc (s2.wipe vs) else .bad
      | _ => .bad
noncomputable def eLc (it : S → Ou Wk) (vs : List Nat) (m : Tg) (fc : S → Ou Bool) (fe : S → Ou D) : S → Ou (D × Bool) := fun s => (it s).bind fun wk s1 =>
  if s1.bare vs = true then lcL wk.g wk.node vs s1 m fc fe wk.items [] ((wk.g.lend wk.node s1).wipe vs) else .bad

/-- a name is forgotten -/
theorem Rel.drop {W : Wd} {s : S} {t : St} {H : Hp} {i : Nat} (R : Rel W s t H) : Rel W (s.set i .un) (t.set i none) H ∧ (∀ a, Ow (s.set i .un) (t.set i none) a → Ow s t a) := by
  have ho : ∀ j a, Own (s.set i .un) (t.set i none) j a → j ≠ i ∧ Own s t j a := fun j a ⟨⟨lk, d, h1⟩, h2⟩ => by
    have h1 : (s.r.set i .un)[j]? = some (.own lk d) := h1
    rcases getD_set h1 with ⟨_, z⟩ | ⟨e, q⟩
    · cases z
    · rcases getD_set h2 with ⟨z, _⟩ | ⟨_, q2⟩
      · exact absurd z e
      · exact ⟨e, ⟨lk, d, q⟩, q2⟩
  refine ⟨⟨R.hr, by rw [List.length_set]; exact (List.length_set ..).trans R.len, fun j d q => ?_, fun j lk d q => ?_, fun j k a h1 h2 => R.one j k a (ho j a h1).2 (ho k a h2).2⟩, fun a ⟨j, z⟩ => ⟨j, (ho j a z).2⟩⟩
  · have q : (s.r.set i .un)[j]? = some (.fz d) := q
    rcases getD_set q with ⟨_, z⟩ | ⟨e, z⟩
    · cases z
    · obtain ⟨v, h1, h2⟩ := R.fz j d z
      exact ⟨v, (List.getElem?_set_ne (Ne.symm e)).trans h1, h2⟩
  · have q : (s.r.set i .un)[j]? = some (.own lk d) := q
    rcases getD_set q with ⟨_, z⟩ | ⟨e, z⟩
    · cases z
    · obtain ⟨a, o, h1, h2⟩ := R.own j lk d z
      exact ⟨a, o, (List.getElem?_set_ne (Ne.symm e)).trans h1, h2⟩
theorem Rel.wipe {W : Wd} {s : S} {t : St} {H : Hp} (R : Rel W s t H) : ∀ vs : List Nat, Rel W (s.wipe vs) (L2.wipe t vs) H ∧ (∀ a, Ow (s.wipe vs) (L2.wipe t vs) a → Ow s t a)
  | [] => ⟨R, fun _ h => h⟩
  | v :: vs => by
    obtain ⟨R1, o1⟩ := R.wipe vs
    obtain ⟨R2, o2⟩ := R1.drop (i := v)
    exact ⟨R2, fun a z => o1 a (o2 a z)⟩
theorem wipe_r {s : S} {j : Nat} : ∀ {vs : List Nat}, j ∉ vs → (s.wipe vs).r[j]? = s.r[j]?
  | [], _ => rfl
  | v :: vs, h => by
    show ((s.wipe vs).r.set v .un)[j]? = _
    rw [List.getElem?_set_ne (show v ≠ j from fun e => h (by rw [e]; exact List.mem_cons_self ..))]
    exact wipe_r fun z => h (List.mem_cons_of_mem _ z)
theorem wipe_h {s : S} : ∀ {vs : List Nat}, (s.wipe vs).h = s.h
  | [] => rfl
  | v :: vs => wipe_h (vs := vs)
theorem wipe_len {s : S} : ∀ {vs : List Nat}, (s.wipe vs).r.length = s.r.length
  | [] => rfl
  | v :: vs => (List.length_set ..).trans (wipe_len (vs := vs))
theorem wipe_t {t : St} {j : Nat} : ∀ {vs : List Nat}, j ∉ vs → (L2.wipe t vs)[j]? = t[j]?
  | [], _ => rfl
  | v :: vs, h => by
    show ((L2.wipe t vs).set v none)[j]? = _
    rw [List.getElem?_set_ne (show v ≠ j from fun e => h (by rw [e]; exact List.mem_cons_self ..))]
    exact wipe_t fun z => h (List.mem_cons_of_mem _ z)
theorem wipe_in {t : St} {j : Nat} : ∀ {vs : List Nat}, j ∈ vs → j < t.length → (L2.wipe t vs)[j]? = some none
  | [], h, _ => nomatch h
  | v :: vs, h, hl => by
    show ((L2.wipe t vs).set v none)[j]? = _
    by_cases e : v = j
    · subst e
      exact List.getElem?_set_self (by rw [wipe_length]; exact hl)
    · rw [List.getElem?_set_ne e]
      exact wipe_in ((List.mem_cons.mp h).resolve_left fun z => e z.symm) hl
theorem wipe_ext {t t2 : St} {vs : List Nat} (hl : t2.length = t.length) (h : ∀ j, j ∉ vs → t2[j]? = t[j]?) : L2.wipe t2 vs = L2.wipe t vs := by
  apply List.ext_getElem?
  intro j
  by_cases hj : j ∈ vs
  · by_cases hlt : j < t.length
    · rw [wipe_in hj hlt, wipe_in hj (hl ▸ hlt)]
    · rw [List.getElem?_eq_none (by rw [wipe_length]; omega), List.getElem?_eq_none (by rw [wipe_length]; omega)]
  · rw [wipe_t hj, wipe_t hj, h j hj]
theorem wipe_wipe {t : St} {vs : List Nat} : L2.wipe (L2.wipe t vs) vs = L2.wipe t vs := wipe_ext (wipe_length t vs) fun j hj => wipe_t hj
theorem back_out {s0 s : S} {j : Nat} : ∀ {vs : List Nat}, j ∉ vs → (S.back s0 s vs).r[j]? = s.r[j]?
  | [], _ => rfl
  | v :: vs, h => by
    have ih := back_out (s0 := s0) (s := s) (vs := vs) (j := j) fun z => h (List.mem_cons_of_mem _ z)
    unfold S.back
    split
    · show ((S.back s0 s vs).r.set v _)[j]? = _
      rw [List.getElem?_set_ne (show v ≠ j from fun e => h (by rw [e]; exact List.mem_cons_self ..))]
      exact ih
    · exact ih
theorem back_h {s0 s : S} : ∀ {vs : List Nat}, (S.back s0 s vs).h = s.h
  | [] => rfl
  | v :: vs => by
    unfold S.back
    split
    · exact back_h (vs := vs)
    · exact back_h (vs := vs)
theorem back_len {s0 s : S} : ∀ {vs : List Nat}, (S.back s0 s vs).r.length = s.r.length
  | [] => rfl
  | v :: vs => by
    unfold S.back
    split
    · exact (List.length_set ..).trans (back_len (vs := vs))
    · exact back_len (vs := vs)
theorem back_in {s0 s : S} {j : Nat} (hl : s0.r.length = s.r.length) : ∀ {vs : List Nat}, j ∈ vs → (S.back s0 s vs).r[j]? = s0.r[j]?
  | [], h => nomatch h
  | v :: vs, h => by
    unfold S.back
    by_cases e : v = j
    · subst e
      split
      · rename_i x hx
        rw [hx]
        exact List.getElem?_set_self (by rw [back_len, ← hl]; exact (List.getElem?_eq_some_iff.mp hx).1)
      · rename_i hx
        rw [hx]
        exact List.getElem?_eq_none (by rw [back_len, ← hl]; exact List.getElem?_eq_none_iff.mp hx)
    · have ih := back_in (s0 := s0) (s := s) (vs := vs) (j := j) hl ((List.mem_cons.mp h).resolve_left fun z => e z.symm)
      split
      · exact (List.getElem?_set_ne e).trans ih
      · exact ih
theorem bare_not {s : S} {vs : List Nat} (h : s.bare vs = true) {j : Nat} (hj : j ∈ vs) (lk : Bool) (d : D) : s.r[j]? ≠ some (.own lk d) := fun e => by
  have z := List.all_eq_true.mp h j hj
  rw [e] at z
  cases z
/-- behind the block -/
theorem Rel.back {W0 W : Wd} {s0 s : S} {t : St} {H0 H : Hp} {vs : List Nat} (R0 : Rel W0 s0 t H0) (hb : s0.bare vs = true) (l : W0.le W) (R : Rel W s (L2.wipe t vs) H) : Rel W (S.back s0 s vs) t H ∧ (∀ a, Ow (S.back s0 s vs) t a → Ow s (L2.wipe t vs) a) := by
  have hl : s0.r.length = s.r.length := by rw [R0.len, R.len, wipe_length]
  have ho : ∀ j a, Own (S.back s0 s vs) t j a → Own s (L2.wipe t vs) j a := fun j a ⟨⟨lk, d, h1⟩, h2⟩ => by
    by_cases hj : j ∈ vs
    · rw [back_in hl hj] at h1
      exact absurd h1 (bare_not hb hj lk d)
    · rw [back_out hj] at h1
      exact ⟨⟨lk, d, h1⟩, (wipe_t hj).trans h2⟩
  refine ⟨⟨⟨R.hr.same, R.hr.nd, by rw [back_h]; exact R.hr.len, by rw [back_h]; exact R.hr.at_⟩, by rw [back_len, R.len, wipe_length], fun j d q => ?_, fun j lk d q => ?_, fun j k a h1 h2 => R.one j k a (ho j a h1) (ho k a h2)⟩, fun a ⟨j, z⟩ => ⟨j, ho j a z⟩⟩
  · by_cases hj : j ∈ vs
    · rw [back_in hl hj] at q
      obtain ⟨v, h1, h2⟩ := R0.fz j d q
      exact ⟨v, h1, h2.mono l⟩
    · rw [back_out hj] at q
      obtain ⟨v, h1, h2⟩ := R.fz j d q
      exact ⟨v, (wipe_t hj).symm.trans h1, h2⟩
  · by_cases hj : j ∈ vs
    · rw [back_in hl hj] at q
      exact absurd q (bare_not hb hj lk d)
    · rw [back_out hj] at q
      obtain ⟨a, o, h1, h2⟩ := R.own j lk d q
      exact ⟨a, o, (wipe_t hj).symm.trans h1, h2⟩
/-- a node that nobody has is changed -/
theorem Rel.poke {W : Wd} {s : S} {t : St} {H : Hp} {p : Addr} {o : HO} (R : Rel W s t H) (hF : W.F p = none) (hi : p ∉ W.io) (hO : ¬ Ow s t p) : Rel W s t (upd H p o) where
  hr := ⟨fun b x q => (upd_ne (ne_of_none q hF)).trans (R.hr.same b x q), R.hr.nd, R.hr.len, fun n d q => by
      obtain ⟨b, u, h1, h2, h3, h4⟩ := R.hr.at_ n d q
      exact ⟨b, u, h1, h2, (upd_ne (show b ≠ p from fun e => hi (by rw [← e]; exact List.mem_of_getElem? h1))).trans h3, h4⟩⟩
  len := R.len
  fz := R.fz
  own := fun i lk d q => by
    obtain ⟨b, u, h1, h2, h3, h4, h5⟩ := R.own i lk d q
    exact ⟨b, u, h1, h2, h3, (upd_ne (show b ≠ p from fun e => hO ⟨i, ⟨lk, d, q⟩, by rw [← e]; exact h1⟩)).trans h4, h5⟩
  one := R.one
theorem Step.poke {W W' : Wd} {O O' : Addr → Prop} {H H' : Hp} {p : Addr} {o : HO} (s : Step W O H W' O' H') (hp : H p = none) : Step W O H W' O' (upd H' p o) :=
  ⟨s.le, fun a x h hi ho => (upd_ne (ne_of_none h hp)).trans (s.keep a x h hi ho), fun a h => by
    by_cases e : a = p
    · rw [e, upd_same]
      exact fun z => nomatch z
    · rw [upd_ne e]
      exact s.dom a h, s.newF, s.newI, s.newO⟩
end TD

end
section
set_option maxRecDepth 100000
set_option maxHeartbeats 4000000
/-! TdI: list comprehensions. -/
namespace TD
open PySem L2
abbrev WF : WX := fun _ _ _ _ => False
theorem Rel.newNot {W : Wd} {s : S} {t : St} {H : Hp} {p : Addr} (R : Rel W s t H) (hp : H p = none) : W.F p = none ∧ p ∉ W.io ∧ ¬ Ow s t p := by
  refine ⟨R.hr.same.free hp, fun z => ?_, fun ⟨i, ⟨lk, d', z1⟩, z2⟩ => ?_⟩
  · obtain ⟨n, hn⟩ := List.getElem?_of_mem z
    have hl : n < s.h.length := by rw [← R.hr.len]; exact (List.getElem?_eq_some_iff.mp hn).1
    obtain ⟨b, u, h1, _, h3, _⟩ := R.hr.at_ n _ (List.getElem?_eq_getElem hl)
    rw [hn] at h1
    cases h1
    rw [hp] at h3
    cases h3
  · obtain ⟨b, u, h1, _, _, h4, _⟩ := R.own i lk d' z1
    rw [z2] at h1
    cases h1
    rw [hp] at h4
    cases h4
/-- p is a node apart -/
structure Apart (W : Wd) (O : Addr → Prop) (H : Hp) (p : Addr) (o : HO) : Prop where
  F : W.F p = none
  io : p ∉ W.io
  O : ¬ O p
  at_ : H p = some o
theorem Apart.step {W W' : Wd} {O O' : Addr → Prop} {H H' : Hp} {p : Addr} {o : HO} (a : Apart W O H p o) (s : Step W O H W' O' H') : Apart W' O' H' p o := by
  refine ⟨?_, fun z => ?_, fun z => ?_, s.keep p o a.at_ a.io a.O⟩
  · cases e : W'.F p with
    | none => rfl
    | some u =>
      rcases s.newF p (by rw [e]; exact fun z => nomatch z) with z | z | z
      · exact absurd a.F z
      · rw [a.at_] at z; cases z
      · exact absurd z a.O
  · rcases s.newI p z with z | z | z
    · exact a.io z
    · rw [a.at_] at z; cases z
    · exact a.O z
  · rcases s.newO p z with z | z
    · exact a.O z
    · rw [a.at_] at z; cases z
theorem Apart.ow {W : Wd} {O O' : Addr → Prop} {H : Hp} {p : Addr} {o : HO} (a : Apart W O H p o) (h : ∀ x, O' x → O x) : Apart W O' H p o := ⟨a.F, a.io, fun z => a.O (h p z), a.at_⟩
theorem Apart.upd {W : Wd} {O : Addr → Prop} {H : Hp} {p : Addr} {o o' : HO} (a : Apart W O H p o) : Apart W O (upd H p o') p o' := ⟨a.F, a.io, a.O, upd_same⟩
theorem GdOk.names {wk : Wk} {v : V} {b : Bool} {W : Wd} {s s' : S} {t t' : St} (h : GdOk wk v b W s t) (hh : s'.h = s.h) (hj : ∀ i lk, wk.g = .sl i lk → s'.r[i]? = s.r[i]? ∧ t'[i]? = t[i]?) : GdOk wk v b W s' t' := by
  unfold GdOk at h ⊢
  cases e : wk.g with
  | non => rw [e] at h; exact h
  | sl i lk =>
    rw [e] at h
    obtain ⟨a, b⟩ := hj i lk e
    exact ⟨a.trans h.1, b.trans h.2⟩
  | hp n => rw [e] at h; exact ⟨by rw [hh]; exact h.1, h.2⟩
theorem lend_not {wk : Wk} {s : S} {j : Nat} (h : ∀ i lk, wk.g = .sl i lk → j ≠ i) : (wk.g.lend wk.node s).r[j]? = s.r[j]? := by
  unfold Gd.lend
  cases e : wk.g with
  | sl i lk => exact List.getElem?_set_ne (Ne.symm (h i lk e))
  | _ => rfl
theorem still_of {wk : Wk} {v : V} {b : Bool} {W : Wd} {s s' : S} {t : St} (h : GdOk wk v b W s t) (hh : s'.h = s.h) : wk.g.still wk.node s' = true := by
  unfold GdOk at h
  cases e : wk.g with
  | hp n =>
    rw [e] at h
    exact still_hp.mpr (by rw [hh]; exact h.1)
  | _ => rfl
section
variable {K : PySem.W.Frag} {mg : Str → Option Value} {Wx : WX} {it : S → Ou Wk} {vs ws : List Nat} {m : Tg} {g : TG} {fc : S → Ou Bool} {fe : S → Ou D}
theorem tE_lc {t : St} {H : Hp} {Q : VK} (hg : TgOk K g m ws) (hw : ∀ j ∈ ws, j ∈ vs) (h : tD kV K mg Wx (eLc it vs m fc fe) t H Q) : tLc (tI K mg Wx it) g (tD kB K mg WF fc) (tD kF K mg WF fe) vs t H Q := by
  obtain ⟨W0, s00, o0, R0, q0⟩ := h
  refine ⟨W0, s00, o0, R0, Po.bind q0 fun wk J s0 W1 H1 st0 ln0 R1 rk q => ?_⟩
  obtain ⟨v, g0, wks⟩ := (show ∃ v, GdOk wk v false W1 s0 t ∧ Walks K W1 wk v J from rk)
  have o1 := o0.le st0.le
  split at q
  · rename_i hb
    intro p hp
    obtain ⟨gl, Rl, ol, ll⟩ := g0.lend R1
    have notin : ∀ i lk, wk.g = .sl i lk → i ∉ vs := fun i lk e hi => by
      have z := g0
      unfold GdOk at z
      rw [e] at z
      exact bare_not hb hi _ _ z.1
    have lnW : ∀ {s' : S} {t' : St}, (∀ j, j ∉ vs → s'.r[j]? = (wk.g.lend wk.node s0).r[j]? ∧ t'[j]? = t[j]?) → Lent s0 s' t t' := fun {s' t'} z j d e => by
      have hj : j ∉ vs := fun hj => bare_not hb hj _ _ e
      exact ⟨(z j hj).1.trans (ll j d e).1, (z j hj).2⟩
    obtain ⟨Rw, ow⟩ := Rl.wipe vs
    have nn := Rw.newNot hp
    have ap0 : Apart W1 (Ow ((wk.g.lend wk.node s0).wipe vs) (L2.wipe t vs)) (upd H1 p (.lst [])) p (.lst []) := ⟨nn.1, nn.2.1, nn.2.2, upd_same⟩
    have gw : GdOk wk v true W1 ((wk.g.lend wk.node s0).wipe vs) (L2.wipe t vs) := gl.names wipe_h fun i lk e => ⟨wipe_r (notin i lk e), wipe_t (notin i lk e)⟩
    refine ⟨fun i mm H' => mm = wk.items.length - i ∧ i ≤ wk.items.length ∧ ∃ W s acc accV, W.of K mg ∧ Rel W s (L2.wipe t vs) H' ∧ GdOk wk v true W s (L2.wipe t vs) ∧ Step W1 (Ow s0 t) H1 W (Ow s (L2.wipe t vs)) H' ∧ Lent s0 s t (L2.wipe t vs) ∧
        Apart W (Ow s (L2.wipe t vs)) H' p (.lst accV) ∧ Reps W acc accV ∧ Po kV W1 s0 t H1 Wx Q (lcL wk.g wk.node vs s0 m fc fe (wk.items.drop i) acc s),
      ⟨wk.items.length, by simp, Nat.zero_le _, W1, _, [], [], o1, Rw.poke nn.1 nn.2.1 nn.2.2, gw, (Step.refl.ow (fun _ => .rfl) fun a z => (ol a).mp (ow a z)).poke hp, lnW fun j hj => ⟨wipe_r hj, wipe_t hj⟩, ap0, rfl, by rw [List.drop_zero]; exact q⟩, ?_⟩
    rintro i mm H' ⟨rfl, hi, W, s, acc, accV, o, R, gd, st, ln, ap, ra, q⟩
    by_cases hlt : i < wk.items.length
    · have e : wk.items[i]? = some wk.items[i] := List.getElem?_eq_getElem hlt
      rw [List.drop_eq_getElem_cons hlt] at q
      obtain ⟨hgo, hy⟩ := wks.go i W H' _ o.K st.le R.hr.same (gd.rep R) e
      refine .inr ⟨hgo, fun H' => ∃ W s acc accV, W.of K mg ∧ Rel W s (L2.wipe t vs) H' ∧ GdOk wk v true W s (L2.wipe t vs) ∧ Step W1 (Ow s0 t) H1 W (Ow s (L2.wipe t vs)) H' ∧ Lent s0 s t (L2.wipe t vs) ∧
        Apart W (Ow s (L2.wipe t vs)) H' p (.lst accV) ∧ Reps W acc accV ∧ Po kV W1 s0 t H1 Wx Q (lcL wk.g wk.node vs s0 m fc fe (wk.items.drop (i + 1)) acc s), fun H2 z => ⟨wk.items.length - (i + 1), by omega, rfl, hlt, z⟩, fun x H2 y => ?_⟩
      obtain ⟨W2, gr, rx⟩ := hy x H2 y
      unfold lcL at q
      split at q
      · exact False.elim q
      · rename_i s1 em
        have o2 := o.le gr.le
        refine hg.run W2 s s1 (L2.wipe t vs) H2 _ x _ o2.K (gr.rel R) rx em fun t1 R2 ow1 ln1 fr1 hh hlen => ?_
        have ht1 : L2.wipe t1 vs = L2.wipe t vs := (wipe_ext hlen fun j hj => (fr1 j fun z => hj (hw j z)).2).trans wipe_wipe
        have st2 : Step W1 (Ow s0 t) H1 W2 (Ow s1 t1) H2 := (Grow.after st gr).ow (fun _ => .rfl) ow1
        have gd2 : GdOk wk v true W2 s1 t1 := gd.after gr.le ln1 (still_of gd hh)
        have ap2 : Apart W2 (Ow s1 t1) H2 p (.lst accV) := (ap.step gr.step).ow ow1
        have ln2 := ln.trans ln1
        refine ⟨ht1, W2, s1, o2, R2, ?_⟩
        -- a state behind a turn
        have fin : ∀ {W3 : Wd} {s3 : S} {H3 : Hp} {ac : List D} {acV : List V}, W2.le W3 → Rel W3 s3 t1 H3 → GdOk wk v true W3 s3 t1 → Step W1 (Ow s0 t) H1 W3 (Ow s3 t1) H3 → Lent s0 s3 t t1 → Apart W3 (Ow s3 t1) H3 p (.lst acV) → Reps W3 ac acV →
            Po kV W1 s0 t H1 Wx Q (lcL wk.g wk.node vs s0 m fc fe (wk.items.drop (i + 1)) ac (s3.wipe vs)) → ∃ W s acc accV, W.of K mg ∧ Rel W s (L2.wipe t vs) H3 ∧ GdOk wk v true W s (L2.wipe t vs) ∧ Step W1 (Ow s0 t) H1 W (Ow s (L2.wipe t vs)) H3 ∧ Lent s0 s t (L2.wipe t vs) ∧
              Apart W (Ow s (L2.wipe t vs)) H3 p (.lst accV) ∧ Reps W acc accV ∧ Po kV W1 s0 t H1 Wx Q (lcL wk.g wk.node vs s0 m fc fe (wk.items.drop (i + 1)) acc s) := fun {W3 s3 H3 ac acV} l3 R3 gd3 st3 ln3 ap3 ra3 q3 => by
          obtain ⟨R4, ow4⟩ := R3.wipe vs
          rw [ht1] at R4 ow4
          refine ⟨W3, s3.wipe vs, ac, acV, o2.le l3, R4, gd3.names wipe_h fun i lk e => ⟨wipe_r (notin i lk e), ?_⟩, st3.ow (fun _ => .rfl) ow4, fun j d e => ?_, ap3.ow ow4, ra3, q3⟩
          · rw [← ht1]
            exact wipe_t (notin i lk e)
          · have hj : j ∉ vs := fun hj => bare_not hb hj _ _ e
            obtain ⟨a, b⟩ := ln3 j d e
            exact ⟨(wipe_r hj).trans a, by rw [← ht1, wipe_t hj]; exact b⟩
        cases ec : fc s1 with
        | ok b s2 =>
          rw [ec] at q
          intro b' W3 H3 st3 ln3 R3 rb
          cases (show b = b' from rb)
          cases b with
          | true =>
            dsimp only at q
            rw [if_pos rfl]
            refine ⟨W3, s2, o2.le st3.le, R3, ?_⟩
            cases ee : fe s2 with
            | ok y s3 =>
              rw [ee] at q
              dsimp only at q
              split at q
              · rename_i hs
                intro yv W4 H4 st4 ln4 R4 ry
                have ry : Rep W4 y yv := ry
                have ap4 := (ap2.step st3).step st4
                have l4 := st3.le.trans st4.le
                refine ⟨accV, ap4.at_, by rw [ra.length]; exact hs.2, ?_⟩
                refine fin l4 (R4.poke ap4.F ap4.io ap4.O) (gd2.after l4 (ln3.trans ln4) hs.1) (((st2.trans st3).trans st4).poke hp) ((ln2.trans ln3).trans ln4) ap4.upd ((ra.mono (gr.le.trans l4)).append (show Reps W4 [y] [yv] from ⟨yv, [], rfl, ry, rfl⟩)) q
              · exact False.elim q
            | ex x s3 => rw [ee] at q; exact False.elim q
            | bad => rw [ee] at q; exact False.elim q
          | false =>
            dsimp only at q
            rw [if_neg Bool.false_ne_true]
            split at q
            · rename_i hs
              exact fin st3.le R3 (gd2.after st3.le ln3 hs) (st2.trans st3) (ln2.trans ln3) (ap2.step st3) (ra.mono (gr.le.trans st3.le)) q
            · exact False.elim q
        | ex x s2 => rw [ec] at q; exact False.elim q
        | bad => rw [ec] at q; exact False.elim q
    · have e : i = wk.items.length := by omega
      subst e
      rw [List.drop_length] at q
      obtain ⟨Rb, ob⟩ := R1.back hb st.le R
      have gb : GdOk wk v true W (S.back s0 s vs) t := gd.names back_h fun i lk e => ⟨back_out (notin i lk e), (wipe_t (notin i lk e)).symm⟩
      obtain ⟨Ru, ou⟩ := gb.unlend Rb
      have lb : Lent s0 (S.back s0 s vs) t t := fun j d e => by
        have hj : j ∉ vs := fun hj => bare_not hb hj _ _ e
        exact ⟨(back_out hj).trans (ln j d e).1, rfl⟩
      refine .inl ⟨wks.stop W H' o.K st.le R.hr.same (gd.rep R), q (.ref p) W H' (st.ow (fun _ => .rfl) fun a z => ob a ((ou a).mp z)) (Lent.unlend (g0.le st.le) gb lb) Ru (kV_T ⟨p, _, rfl, .inl hp, ap.F, ap.io, fun z => ap.O (ob p ((ou p).mp z)), ap.at_, accV, rfl, ra⟩)⟩
  · exact False.elim q
end
/-! the rules -/
def PTsD (X : Cx) (ifs : List Expr) (f : S → Ou Bool) : Prop := ∀ Wx, Takes X Wx → PTs X ifs (tD kB X.K X.mg Wx f)
theorem PTs.imp {X : Cx} {ifs : List Expr} {t t' : TT} (h : PTs X ifs t) (i : ∀ s H Q, t' s H Q → t s H Q) : PTs X ifs t' := ⟨fun pins s σ H Q I q => h.run pins s σ H Q I (i _ _ _ q)⟩
theorem PTsD.nil {X : Cx} : PTsD X [] (eC true) := fun Wx tk => PTs.imp pts_nil fun t H Q ⟨W, s, o, R, q⟩ => Po.pure q R rfl
theorem PTsD.one {X : Cx} {c : Expr} {f : S → Ou Bool} (h : PTD kB X c f) : PTsD X [c] f := fun Wx tk => pts_one (h Wx tk)
section
variable {X : Cx} {elt tg iter : Expr} {ifs : List Expr} {scope : Scope} {own : List (Str × Nat)} {pos : Pos} {it : S → Ou Wk} {ws : List Nat} {m : Tg} {g : TG} {fc : S → Ou Bool} {fe : S → Ou D}
theorem PD.lc (hc : X.calm = true) (hN : X.N.Nodup) (hi : PID X tg iter it) (ok : BlkOk X.N X.env.scope scope own) (hw : ∀ j ∈ ws, j ∈ own.map (·.2))
    (hg : ∀ (s : Shared) (H : Hp) (C : Addr) (cl : List (Str × Addr)) (fp : List Addr), PGD (X.blk s H scope (compEnvC scope cl C X.env) fp) tg g m ws)
    (ht : ∀ (s : Shared) (H : Hp) (C : Addr) (cl : List (Str × Addr)) (fp : List Addr), PTsD (X.blk s H scope (compEnvC scope cl C X.env) fp) ifs fc)
    (he : ∀ (s : Shared) (H : Hp) (C : Addr) (cl : List (Str × Addr)) (fp : List Addr), PD kF (X.blk s H scope (compEnvC scope cl C X.env) fp) elt fe) (hs : ∀ x, foldedSetIterable iter X.env x = pure x) :
    PD kV X (.ListComp elt [⟨tg, iter, ifs, 0⟩] scope pos) (eLc it (own.map (·.2)) m fc fe) := fun Wx tk =>
  PE.imp (pe_lc hc hN (hi Wx tk) ok (fun s H C cl fp => (hg s H C cl fp).pg) (fun s H C cl fp => ht s H C cl fp WF takes0) (fun s H C cl fp => he s H C cl fp WF takes0) hs)
    fun t H Q h => tE_lc (hg ({} : Shared) H 0 [] []).ok hw h
theorem PSD.setLc {i : Nat} {y : Str} {py spos : Pos} (hc : X.calm = true) (hN : X.N.Nodup) (hy : X.N[i]? = some y) (hyl : X.env.scope.names.lookup y = some .local) (hsw : swapsWith (.ListComp elt [⟨tg, iter, ifs, 0⟩] scope pos) (some (.Name y py)) spos.line X.env = pure true)
    (hi : PID X tg iter it) (ok : BlkOk X.N X.env.scope scope own) (hw : ∀ j ∈ ws, j ∈ own.map (·.2))
    (hg : ∀ (s : Shared) (H : Hp) (C : Addr) (cl : List (Str × Addr)) (fp : List Addr), PGD (X.blk s H scope (compEnvC scope cl C X.env) fp) tg g m ws)
    (ht : ∀ (s : Shared) (H : Hp) (C : Addr) (cl : List (Str × Addr)) (fp : List Addr), PTsD (X.blk s H scope (compEnvC scope cl C X.env) fp) ifs fc)
    (he : ∀ (s : Shared) (H : Hp) (C : Addr) (cl : List (Str × Addr)) (fp : List Addr), PD kF (X.blk s H scope (compEnvC scope cl C X.env) fp) elt fe) (hs : ∀ x, foldedSetIterable iter X.env x = pure x) :
    PSD X (.Assign [.Name y py] (.ListComp elt [⟨tg, iter, ifs, 0⟩] scope pos) spos) (sSet i (eLc it (own.map (·.2)) m fc fe)) := fun Wx tk =>
  PS.imp (ps_setLc hc hN hy hyl hsw (hi Wx tk) ok (fun s H C cl fp => (hg s H C cl fp).pg) (fun s H C cl fp => ht s H C cl fp WF takes0) (fun s H C cl fp => he s H C cl fp WF takes0) hs)
    fun D t H h => tE_lc (hg ({} : Shared) H 0 [] []).ok hw (tS_set h)
end
end TD

end
section
set_option maxRecDepth 100000
set_option maxHeartbeats 4000000
/-! TdJ: walks of lists, tuples, ranges, texts; operations. -/
namespace TD
open PySem L2

/-! ### walks -/
def gdOf (s : S) : Ar → Gd
  | .v d => match d with
    | .ref n => .hp n
    | _ => .non
  | .sl i => match s.r[i]? with
    | some (.own lk _) => .sl i lk
    | some (.fz (.ref n)) => .hp n
    | _ => .non
theorem GdOk.of {W : Wd} {s : S} {t : St} {H : Hp} {x : Ar} {v : V} {d : D} {items : List D} (R : Rel W s t H) (r : RepA W t x v) (h : s.look x = some d) : GdOk ⟨gdOf s x, d, items⟩ v false W s t := by
  cases x with
  | v e =>
    unfold S.look at h
    dsimp only at h
    unfold gdOf GdOk
    split at h
    · exact ⟨h, r⟩
    · rename_i hne
      cases h
      dsimp only
      split
      · rename_i he
        split at he
        · rename_i n
          exact absurd rfl (hne n)
        · exact r
      · rename_i i lk he
        split at he <;> cases he
      · rename_i n he
        split at he
        · rename_i m
          exact absurd rfl (hne m)
        · cases he
  | sl i =>
    have r : t[i]? = some (some v) := r
    unfold S.look at h
    dsimp only at h
    split at h
    · rename_i lk e q
      cases h
      unfold gdOf GdOk
      dsimp only
      rw [q]
      exact ⟨q, r⟩
    · rename_i n q
      unfold gdOf GdOk
      dsimp only
      rw [q]
      obtain ⟨w, h1, h2⟩ := R.fz i _ q
      rw [r] at h1
      cases h1
      exact ⟨h, h2⟩
    · rename_i e hne q
      cases h
      obtain ⟨w, h1, h2⟩ := R.fz i _ q
      rw [r] at h1
      cases h1
      unfold gdOf GdOk
      dsimp only
      rw [q]
      cases d <;> first | exact h2 | exact absurd rfl (hne _)
    · cases h
def iLst (fa : S → Ou Ar) : S → Ou Wk := fun s => (fa s).bind fun x s1 => match s1.look x with
  | some (.nd .lst ds) => .ok ⟨gdOf s1 x, .nd .lst ds, ds⟩ s1
  | _ => .bad
def iTup (fa : S → Ou Ar) : S → Ou Wk := fun s => (fa s).bind fun x s1 => match s1.look x with
  | some (.nd .tup ds) => .ok ⟨gdOf s1 x, .nd .tup ds, ds⟩ s1
  | _ => .bad
/-- a list or a tuple -/
def iSeq (fa : S → Ou Ar) : S → Ou Wk := fun s => (fa s).bind fun x s1 => match s1.look x with
  | some (.nd .lst ds) => .ok ⟨gdOf s1 x, .nd .lst ds, ds⟩ s1
  | some (.nd .tup ds) => .ok ⟨gdOf s1 x, .nd .tup ds, ds⟩ s1
  | _ => .bad
section
variable {K : PySem.W.Frag} {Wb : Wd} {g : Gd} {ds : List D} {a : Addr}
theorem walks_lst : Walks K Wb ⟨g, .nd .lst ds, ds⟩ (.ref a) (Itl K a) where
  go := fun i W H d hK l sm r e => by
    obtain ⟨b, xs, eb, hH, rs⟩ := r.lst sm
    cases eb
    obtain ⟨x, hx, rx⟩ := rs.get e
    exact ⟨⟨xs, x, SqL.of hH, hx⟩, fun y H' ⟨e1, e2⟩ => by
      subst e1
      have e3 := e2 xs (SqL.of hH)
      rw [hx] at e3
      cases e3
      exact ⟨W, .refl sm, rx⟩⟩
  stop := fun W H hK l sm r => by
    obtain ⟨b, xs, eb, hH, rs⟩ := r.lst sm
    cases eb
    exact ⟨xs, SqL.of hH, Nat.le_of_eq rs.length⟩
theorem walks_tup : Walks K Wb ⟨g, .nd .tup ds, ds⟩ (.ref a) (Itt K a) where
  go := fun i W H d hK l sm r e => by
    obtain ⟨b, xs, eb, hH, rs⟩ := r.tup sm
    cases eb
    obtain ⟨x, hx, rx⟩ := rs.get e
    exact ⟨⟨xs, x, SqT.of hH, hx⟩, fun y H' ⟨e1, e2⟩ => by
      subst e1
      have e3 := e2 xs (SqT.of hH)
      rw [hx] at e3
      cases e3
      exact ⟨W, .refl sm, rx⟩⟩
  stop := fun W H hK l sm r => by
    obtain ⟨b, xs, eb, hH, rs⟩ := r.tup sm
    cases eb
    exact ⟨xs, SqT.of hH, Nat.le_of_eq rs.length⟩
/-- a walk over items that stand by themselves -/
theorem walks_free {J : It} (h : ∀ (i : Nat) (d : D), ds[i]? = some d → ∀ H, J.go i H ∧ ∀ x H', J.yld i H x H' → H' = H ∧ ∀ W, Rep W d x) (hs : ∀ H, J.stop ds.length H) : Walks K Wb ⟨.non, .non, ds⟩ .non J :=
  ⟨fun i W H d hK l sm r e => ⟨(h i d e H).1, fun x H' y => by
    obtain ⟨e1, e2⟩ := (h i d e H).2 x H' y
    subst e1
    exact ⟨W, .refl sm, e2 W⟩⟩, fun W H hK l sm r => hs H⟩
end
section
variable {X : Cx} {tg e : Expr} {p pos : Pos}
theorem PI.or {w w' : TI} (h : PI X tg e w) (h' : PI X tg e w') : PI X tg e (fun s H R => w s H R ∨ w' s H R) := ⟨fun pins s σ H R I q => q.elim (h.run pins s σ H R I) (h'.run pins s σ H R I)⟩
theorem PID.lst {fa : S → Ou Ar} (h : PD kA X e fa) : PID X tg e (iLst fa) := fun Wx tk => PI.imp (pi_list (h Wx tk)) fun t H Q ⟨W, s, o, R, q⟩ => ⟨W, s, o, R, Po.bind q fun x v s1 W1 H1 st ln R1 rx q1 => by
  split at q1
  · rename_i ds e1
    obtain ⟨a, xs, rfl, hH, rs⟩ := (R1.look rx e1).lst R1.hr.same
    exact ⟨a, rfl, ⟨xs, SqL.of hH⟩, Po.pure (k := kI X.K) q1 R1 ⟨.ref a, GdOk.of R1 rx e1, walks_lst⟩⟩
  · exact False.elim q1⟩
theorem PID.tup {fa : S → Ou Ar} (h : PD kA X e fa) : PID X tg e (iTup fa) := fun Wx tk => PI.imp (pi_tup (h Wx tk)) fun t H Q ⟨W, s, o, R, q⟩ => ⟨W, s, o, R, Po.bind q fun x v s1 W1 H1 st ln R1 rx q1 => by
  split at q1
  · rename_i ds e1
    obtain ⟨a, xs, rfl, hH, rs⟩ := (R1.look rx e1).tup R1.hr.same
    exact ⟨a, rfl, ⟨xs, SqT.of hH⟩, Po.pure (k := kI X.K) q1 R1 ⟨.ref a, GdOk.of R1 rx e1, walks_tup⟩⟩
  · exact False.elim q1⟩
/-- a text, sign by sign -/
def iStr (fa : S → Ou Ar) : S → Ou Wk := fun s => (fa s).bind fun x s1 => match s1.look x with
  | some (.str z) => .ok ⟨.non, .non, z.cps.toList.map fun c => .str ⟨#[c]⟩⟩ s1
  | _ => .bad
theorem PID.str {fa : S → Ou Ar} (h : PD kA X e fa) : PID X tg e (iStr fa) := fun Wx tk => PI.imp (pi_str (h Wx tk)) fun t H Q ⟨W, s, o, R, q⟩ => ⟨W, s, o, R, Po.bind q fun x v s1 W1 H1 st ln R1 rx q1 => by
  split at q1
  · rename_i z e1
    refine ⟨z, (R1.look rx e1).str, Po.pure (k := kI X.K) q1 R1 ⟨.non, rfl, walks_free (fun i d e H => ?_) fun H => ?_⟩⟩
    · rw [List.getElem?_map] at e
      have hi : i < z.cps.size := by
        by_cases hi : i < z.cps.size
        · exact hi
        · rw [List.getElem?_eq_none (by simpa using Nat.le_of_not_lt hi)] at e
          cases e
      refine ⟨hi, fun x H' ⟨e1, c, e2, e3⟩ => ⟨e1, fun W => ?_⟩⟩
      have e4 : z.cps.toList[i]? = some c := by rw [Array.getElem?_toList]; exact e2
      rw [e4] at e
      have e5 : D.str ⟨#[c]⟩ = d := Option.some.inj e
      subst e5
      exact e3
    · show z.cps.size ≤ _
      simp
  · exact False.elim q1⟩
/-- range(n) -/
def iRng1q (fs : S → Ou (List Ar)) : S → Ou Wk := fun s => (fs s).bind fun xs s1 => match s1.looks xs with
  | some [.int j] => if -(2 ^ 62) ≤ j ∧ j < 2 ^ 62 then .ok ⟨.non, .non, (List.range j.toNat).map fun (i : Nat) => .int (i : Int)⟩ s1 else .bad
  | _ => .bad
noncomputable def iRng1 (fs : S → Ou (List Ar)) : S → Ou Wk := hide (iRng1q fs)
theorem iRng1_eq (fs : S → Ou (List Ar)) : iRng1 fs = iRng1q fs := hide_eq _
theorem PID.rng1 {a : Expr} {fs : S → Ou (List Ar)} (hg : Gl X "range") (hm : X.mg "range" = none) (ha : PAD kAs X [a] fs) (hs : starEach [a] X.env = [(false, eval a X.env)]) : PID X tg (.Call (.Name "range" p) [a] [] pos) (iRng1 fs) := by
  rw [iRng1_eq]
  exact fun Wx tk =>
  PI.imp (pi_range1 hg hm (ha Wx tk) hs) fun t H Q ⟨W, s, o, R, q⟩ => ⟨W, s, o, R, Po.bind q fun xs vs s1 W1 H1 st ln R1 rx q1 => by
    split at q1
    · rename_i j e1
      split at q1
      · rename_i hj
        obtain ⟨v, rfl, r1⟩ := (R1.looks rx e1).one
        refine ⟨j, by rw [r1.int], hj.1, hj.2, Po.pure (k := kI X.K) q1 R1 ⟨.non, rfl, walks_free (fun i d e H => ?_) fun H => ?_⟩⟩
        · rw [List.getElem?_map] at e
          have hi : i < j.toNat := by
            by_cases hi : i < j.toNat
            · exact hi
            · rw [List.getElem?_eq_none (by simpa using Nat.le_of_not_lt hi)] at e
              cases e
          rw [List.getElem?_range hi] at e
          have e5 : D.int (i : Int) = d := Option.some.inj e
          subst e5
          refine ⟨hi, fun x H' ⟨e1, e2⟩ => ⟨e1, fun W => ?_⟩⟩
          show x = .int (i : Int)
          rw [e2]
          simp
        · show j.toNat ≤ _
          simp
      · exact False.elim q1
    · exact False.elim q1⟩
end
end TD

end
section
set_option maxRecDepth 100000
set_option maxHeartbeats 4000000
/-! TdK: operations by trees. -/
namespace TD
open PySem L2

/-! ### data -/
mutual
def toPy : D → Option PyData
  | .non => some .none
  | .bl b => some (.bool b)
  | .int i => some (.int i)
  | .str x => some (.str x)
  | .nd .tup ds => match toPys ds with
    | some ps => some (.tuple ps)
    | none => none
  | .nd .lst ds => match toPys ds with
    | some ps => some (.list ps)
    | none => none
  | _ => none
def toPys : List D → Option (List PyData)
  | [] => some []
  | d :: r => match toPy d, toPys r with
    | some p, some ps => some (p :: ps)
    | _, _ => none
end
mutual
theorem dp_rep {K : PySem.W.Frag} {W : Wd} {H : Hp} (sm : Same W.F H) : ∀ {d : D} {v : V} {p : PyData}, Rep W d v → toPy d = some p → Dp K H v p
  | .non, _, _, r, e => by cases e; cases (show _ = V.non from r); exact .non
  | .bl b, _, _, r, e => by cases e; cases (show _ = V.bl b from r); exact .bl b
  | .int i, _, _, r, e => by cases e; cases (show _ = V.int i from r); exact .int i
  | .str x, _, _, r, e => by cases e; cases (show _ = V.str x from r); exact .str x
  | .ref _, _, _, _, e => nomatch e
  | .exn _ _ _, _, _, _, e => nomatch e
  | .nd .tup ds, v, p, r, e => by
    obtain ⟨a, rfl, xs, h, rs⟩ := r
    unfold toPy at e
    split at e
    · rename_i ps e2
      cases e
      exact .tup (SqT.of (sm _ _ h)) (dps_rep sm rs e2)
    · cases e
  | .nd .lst ds, v, p, r, e => by
    obtain ⟨a, rfl, xs, h, rs⟩ := r
    unfold toPy at e
    split at e
    · rename_i ps e2
      cases e
      exact .lst (SqL.of (sm _ _ h)) (dps_rep sm rs e2)
    · cases e
  | .nd .scr _, _, _, _, e => nomatch e
  | .nd .dct _, _, _, _, e => nomatch e
  | .nd (.ins _ _) _, _, _, _, e => nomatch e
theorem dps_rep {K : PySem.W.Frag} {W : Wd} {H : Hp} (sm : Same W.F H) : ∀ {ds : List D} {vs : List V} {ps : List PyData}, Reps W ds vs → toPys ds = some ps → DpAll K H vs ps
  | [], _, _, r, e => by cases e; cases (show _ = ([] : List V) from r); exact .nil
  | d :: ds, _, _, ⟨v, r, e1, h, t⟩, e => by
    subst e1
    unfold toPys at e
    split at e
    · rename_i p ps e2 e3
      cases e
      exact .cons (dp_rep sm h e2) (dps_rep sm t e3)
    · cases e
end
theorem dp_of {K : PySem.W.Frag} {W : Wd} {H : Hp} (sm : Same W.F H) {d : D} {v : V} {p : PyData} (r : RepH W H d v) (e : toPy d = some p) : Dp K H v p := by
  rcases r with r | ⟨a, o, rfl, h, r⟩
  · exact dp_rep sm r e
  · cases d with
    | nd k ds =>
      cases k with
      | tup => exact False.elim r
      | lst =>
        obtain ⟨xs, rfl, r⟩ := r
        unfold toPy at e
        split at e
        · rename_i ps e2
          cases e
          exact .lst (SqL.of h) (dps_rep sm r e2)
        · cases e
      | _ => cases e
    | _ => exact False.elim r
/-- a flat tree's value -/
def flatD : D → Option V
  | .non => some .non
  | .bl b => some (.bl b)
  | .int i => some (.int i)
  | .str x => some (.str x)
  | _ => none
theorem flat_rep {W : Wd} {H : Hp} {d : D} {v w : V} (r : RepH W H d v) (e : flatD d = some w) : v = w := by
  cases d with
  | non => cases e; exact r.non
  | bl b => cases e; exact r.bl
  | int i => cases e; exact r.int
  | str x => cases e; exact r.str
  | _ => cases e

/-! ### operators -/
def eqG (x y : D) : Option (D × Bool) := match flatD x, flatD y with
  | some v, some w => if scal v w = true then some (.bl (decide (v = w)), false) else none
  | _, _ => match toPy x, toPy y with
    | some a, some b => if SeqAt.shaped a = true ∧ SeqAt.shaped b = true then some (.bl (PyData.eqv a b), false) else none
    | _, _ => none
def neG (x y : D) : Option (D × Bool) := match flatD x, flatD y with
  | some v, some w => if scal v w = true then some (.bl (!decide (v = w)), false) else none
  | _, _ => match toPy x, toPy y with
    | some a, some b => if SeqAt.shaped a = true ∧ SeqAt.shaped b = true then some (.bl (!PyData.eqv a b), false) else none
    | _, _ => none
def rEqA (K : PySem.W.Frag) : R2 := fun x y H Q => rEq x y H Q ∨ rEqD K x y H Q
def rNeA (K : PySem.W.Frag) : R2 := fun x y H Q => rNe x y H Q ∨ rNeD K x y H Q
theorem op_eqA {X : Cx} (hu : X.A.units + 64 < cLine) : OpR X (compareOp .Eq) (rEqA X.K) := op_eq.or (op_eqD hu)
theorem op_neA {X : Cx} (hu : X.A.units + 64 < cLine) : OpR X (compareOp .NotEq) (rNeA X.K) := op_ne.or (op_neD hu)
theorem pr_eq {K : PySem.W.Frag} : Prim2 K (rEqA K) eqG := fun W H x y v w Q a hK sm rx ry e af => by
  unfold eqG at e
  split at e
  · rename_i v' w' e1 e2
    split at e
    · rename_i hs
      cases e
      cases flat_rep rx e1
      cases flat_rep ry e2
      exact .inl ⟨hs, af.flat sm rfl⟩
    · cases e
  · split at e
    · rename_i p q e1 e2
      split at e
      · rename_i hs
        cases e
        exact .inr ⟨p, q, dp_of sm rx e1, dp_of sm ry e2, hs.1, hs.2, af.flat sm rfl⟩
      · cases e
    · cases e
theorem pr_ne {K : PySem.W.Frag} : Prim2 K (rNeA K) neG := fun W H x y v w Q a hK sm rx ry e af => by
  unfold neG at e
  split at e
  · rename_i v' w' e1 e2
    split at e
    · rename_i hs
      cases e
      cases flat_rep rx e1
      cases flat_rep ry e2
      exact .inl ⟨hs, af.flat sm rfl⟩
    · cases e
  · split at e
    · rename_i p q e1 e2
      split at e
      · rename_i hs
        cases e
        exact .inr ⟨p, q, dp_of sm rx e1, dp_of sm ry e2, hs.1, hs.2, af.flat sm rfl⟩
      · cases e
    · cases e
/-- an operation upon ints -/
def intGq (c : Int → Int → Bool) (f : Int → Int → D) (x y : D) : Option (D × Bool) := match x, y with
  | .int i, .int j => if c i j = true then some (f i j, false) else none
  | _, _ => none
noncomputable def intG (c : Int → Int → Bool) (f : Int → Int → D) : D → D → Option (D × Bool) := hide (intGq c f)
theorem intG_eq (c : Int → Int → Bool) (f : Int → Int → D) : intG c f = intGq c f := hide_eq _
theorem pr_int {K : PySem.W.Frag} {C : Int → Int → Prop} {c : Int → Int → Bool} {f : Int → Int → D} {g : Int → Int → V} (hc : ∀ i j, c i j = true → C i j) (hf : ∀ W i j, Rep W (f i j) (g i j)) : Prim2 K (rI C g) (intG c f) := fun W H x y v w Q a hK sm rx ry e af => by
  rw [intG_eq] at e
  unfold intGq at e
  split at e
  · rename_i i j
    split at e
    · rename_i h
      cases e
      exact ⟨i, j, rx.int, ry.int, hc i j h, af.flat sm (hf W i j)⟩
    · cases e
  · cases e
def intG0 (f : Int → Int → D) (x y : D) : Option (D × Bool) := match x, y with
  | .int i, .int j => some (f i j, false)
  | _, _ => none
theorem pr_int0 {K : PySem.W.Frag} {f : Int → Int → D} {g : Int → Int → V} (hf : ∀ W i j, Rep W (f i j) (g i j)) : Prim2 K (rI0 g) (intG0 f) := fun W H x y v w Q a hK sm rx ry e af => by
  unfold intG0 at e
  split at e
  · rename_i i j
    cases e
    exact ⟨i, j, rx.int, ry.int, af.flat sm (hf W i j)⟩
  · cases e
def subG := intG0 fun i j => .int (i - j)
def ltG := intG0 fun i j => .bl (decide (i < j))
def leG := intG0 fun i j => .bl (decide (i ≤ j))
def gtG := intG0 fun i j => .bl (decide (j < i))
def geG := intG0 fun i j => .bl (decide (j ≤ i))
noncomputable def mulG := intG (fun i j => decide ((-(2 ^ 64) < i ∧ i < 2 ^ 64) ∨ (-(2 ^ 64) < j ∧ j < 2 ^ 64))) fun i j => .int (i * j)
noncomputable def modG := intG (fun _ j => decide (0 < j)) fun i j => .int (i % j)
noncomputable def fdivG := intG (fun _ j => decide (0 < j ∧ j < 2 ^ 64)) fun i j => .int (i / j)
noncomputable def powG := intG (fun i j => decide (0 ≤ j ∧ j ≤ 1000000 ∧ i.natAbs < 2 ^ 64)) fun i j => .int (i ^ j.toNat)
section
variable {K : PySem.W.Frag}
theorem pr_sub : Prim2 K (rI0 fun i j => .int (i - j)) subG := pr_int0 fun _ _ _ => rfl
theorem pr_lt : Prim2 K (rI0 fun i j => .bl (decide (i < j))) ltG := pr_int0 fun _ _ _ => rfl
theorem pr_le : Prim2 K (rI0 fun i j => .bl (decide (i ≤ j))) leG := pr_int0 fun _ _ _ => rfl
theorem pr_gt : Prim2 K (rI0 fun i j => .bl (decide (j < i))) gtG := pr_int0 fun _ _ _ => rfl
theorem pr_ge : Prim2 K (rI0 fun i j => .bl (decide (j ≤ i))) geG := pr_int0 fun _ _ _ => rfl
theorem pr_mul : Prim2 K (rI CMul fun i j => .int (i * j)) mulG := pr_int (fun i j h => (show (-(2 ^ 64) < i ∧ i < 2 ^ 64) ∨ (-(2 ^ 64) < j ∧ j < 2 ^ 64) from of_decide_eq_true h)) fun _ _ _ => rfl
theorem pr_mod : Prim2 K (rI (fun _ j => 0 < j) fun i j => .int (i % j)) modG := pr_int (fun _ _ h => of_decide_eq_true h) fun _ _ _ => rfl
theorem divW {i j : Int} (h : 0 < j ∧ j < 2 ^ 64) : CDivW i j := by
  refine ⟨h.1, ?_⟩
  have h1 : j.natAbs ≠ 0 := by omega
  have h2 : j.natAbs < 2 ^ 64 := by omega
  exact Nat.lt_trans ((Nat.log2_lt h1).mpr h2) (by decide)
theorem pr_fdiv : Prim2 K (rI CDivW fun i j => .int (i / j)) fdivG := pr_int (fun i j h => divW (show 0 < j ∧ j < 2 ^ 64 from of_decide_eq_true h)) fun _ _ _ => rfl
theorem pr_pow : Prim2 K (rI CPow fun i j => .int (i ^ j.toNat)) powG := pr_int (fun i j h => (show 0 ≤ j ∧ j ≤ 1000000 ∧ i.natAbs < 2 ^ 64 from of_decide_eq_true h)) fun _ _ _ => rfl
end
/-- x + y: ints, texts, lists, tuples -/
def addG (x y : D) : Option (D × Bool) := match x, y with
  | .int i, .int j => some (.int (i + j), false)
  | .str a, .str b => if a.length + b.length ≤ sizeLine then some (.str (a ++ b), false) else none
  | .nd .lst xs, .nd .lst ys => if xs.length + ys.length ≤ sizeLine then some (.nd .lst (xs ++ ys), true) else none
  | .nd .tup xs, .nd .tup ys => if xs ≠ [] ∧ ys ≠ [] ∧ xs.length + ys.length ≤ sizeLine then some (.nd .tup (xs ++ ys), false) else none
  | _, _ => none
def rAddA (K : PySem.W.Frag) : R2 := fun x y H Q => (rI0 (fun i j => .int (i + j)) x y H Q ∨ (∃ i j, x = .str i ∧ y = .str j ∧ i.length + j.length ≤ sizeLine ∧ Q (.str (i ++ j)) H)) ∨ (rCat x y H Q ∨ rCatT K x y H Q)
theorem op_addA {X : Cx} : OpR X (binaryOp .Add) (rAddA X.K) := (op_add.or op_add_str).or (op_cat.or op_catT)
theorem ne_nil_len {α β : Type} {xs : List α} {ys : List β} (h : xs.length = ys.length) (n : ys ≠ []) : xs ≠ [] := fun e => n (List.length_eq_zero_iff.mp (by rw [← h, e]; rfl))
theorem pr_add {K : PySem.W.Frag} : Prim2 K (rAddA K) addG := fun W H x y v w Q a hK sm rx ry e af => by
  unfold addG at e
  split at e
  · cases e
    exact .inl (.inl ⟨_, _, rx.int, ry.int, af.flat sm rfl⟩)
  · split at e
    · rename_i h
      cases e
      exact .inl (.inr ⟨_, _, rx.str, ry.str, h, af.flat sm rfl⟩)
    · cases e
  · split at e
    · rename_i h
      cases e
      obtain ⟨p, us, rfl, hp, rp⟩ := rx.lst sm
      obtain ⟨q, ws, rfl, hq, rq⟩ := ry.lst sm
      exact .inr (.inl ⟨p, q, us, ws, rfl, rfl, hp, hq, by rw [rp.length, rq.length]; exact h, fun z hz => af.lst sm hz ⟨_, rfl, rp.append rq⟩⟩)
    · cases e
  · split at e
    · rename_i h
      cases e
      obtain ⟨p, us, rfl, hp, rp⟩ := rx.tup sm
      obtain ⟨q, ws, rfl, hq, rq⟩ := ry.tup sm
      exact .inr (.inr ⟨p, q, us, ws, rfl, rfl, SqT.of hp, SqT.of hq, ne_nil_len rp.length h.1, by rw [rp.length, rq.length]; exact h.2.2, fun z => absurd z (ne_nil_len rq.length h.2.1), fun _ z hz => af.tup sm hz (rp.append rq)⟩)
    · cases e
  · cases e
/-- c in s, s a text, c one sign; x in a list or tuple of flat things -/
def flats : List D → Option (List V)
  | [] => some []
  | d :: r => match flatD d, flats r with
    | some v, some vs => some (v :: vs)
    | _, _ => none
theorem flats_rep {W : Wd} : ∀ {ds : List D} {vs ws : List V}, Reps W ds vs → flats ds = some ws → vs = ws
  | [], _, _, r, e => by cases e; exact r
  | d :: ds, _, _, ⟨v, r, e1, h, t⟩, e => by
    subst e1
    unfold flats at e
    split at e
    · rename_i x xs e2 e3
      cases e
      rw [flat_rep (H := fun _ => none) (.inl h) e2, flats_rep t e3]
    · cases e
def inG (neg : Bool) (x y : D) : Option (D × Bool) := match x, y with
  | .str a, .str z => match a.cps.toList with
    | [c] => some (.bl (neg ^^ decide (c ∈ z.cps.toList)), false)
    | _ => none
  | x, .nd k ds => if k = .lst ∨ k = .tup then (match flatD x, flats ds with
    | some v, some vs => if flatV v = true ∧ vs.all flatV = true then some (.bl (neg ^^ inV v vs), false) else none
    | _, _ => none) else none
  | _, _ => none
def rInA (K : PySem.W.Frag) : R2 := fun x y H Q => (∃ (c : Nat) (z : Str), x = .str ⟨#[c]⟩ ∧ y = .str z ∧ Q (.bl (decide (c ∈ z.cps.toList))) H) ∨ rIn K false x y H Q
def rNotInA (K : PySem.W.Frag) : R2 := fun x y H Q => (∃ (c : Nat) (z : Str), x = .str ⟨#[c]⟩ ∧ y = .str z ∧ Q (.bl (!decide (c ∈ z.cps.toList))) H) ∨ rIn K true x y H Q
theorem op_inA {X : Cx} : OpR X (compareOp .In) (rInA X.K) := op_in_sign.or op_in_seq
theorem op_notInA {X : Cx} : OpR X (compareOp .NotIn) (rNotInA X.K) := op_notIn_sign.or op_notIn_seq
theorem sign_eq {a : Str} {c : Nat} (h : a.cps.toList = [c]) : a = ⟨#[c]⟩ := by
  cases a with
  | mk xs =>
    cases xs with
    | mk l =>
      have h : l = [c] := h
      rw [h]
theorem pr_inX {K : PySem.W.Frag} {neg : Bool} {W : Wd} {H : Hp} {x y : D} {v w : V} {Q : VK} {a : D × Bool} (sm : Same W.F H) (rx : RepH W H x v) (ry : RepH W H y w) (e : inG neg x y = some a) (af : Aft W H Q a) :
    (∃ (c : Nat) (z : Str), v = .str ⟨#[c]⟩ ∧ w = .str z ∧ Q (.bl (neg ^^ decide (c ∈ z.cps.toList))) H) ∨ rIn K neg v w H Q := by
  unfold inG at e
  split at e
  · split at e
    · rename_i c ec
      cases e
      refine .inl ⟨c, _, ?_, ry.str, af.flat sm rfl⟩
      rw [rx.str, sign_eq ec]
    · cases e
  · rename_i k ds
    split at e
    · rename_i hk
      split at e
      · rename_i u us e1 e2
        split at e
        · rename_i hf
          cases e
          cases flat_rep rx e1
          have fin : Q (.bl (if neg then !inV v us else inV v us)) H := by
            have z := af.flat (v := .bl (neg ^^ inV v us)) sm rfl
            cases neg <;> simpa using z
          rcases hk with rfl | rfl
          · obtain ⟨p, ws, rfl, hp, rp⟩ := ry.lst sm
            cases flats_rep rp e2
            exact .inr ⟨p, _, rfl, .inl (SqL.of hp), hf.1, hf.2, fin⟩
          · obtain ⟨p, ws, rfl, hp, rp⟩ := ry.tup sm
            cases flats_rep rp e2
            exact .inr ⟨p, _, rfl, .inr (SqT.of hp), hf.1, hf.2, fin⟩
        · cases e
      · cases e
    · cases e
  · cases e
theorem pr_in {K : PySem.W.Frag} : Prim2 K (rInA K) (inG false) := fun W H x y v w Q a hK sm rx ry e af => (pr_inX (K := K) sm rx ry e af).imp (fun ⟨c, z, e1, e2, q⟩ => ⟨c, z, e1, e2, by simpa using q⟩) id
theorem pr_notIn {K : PySem.W.Frag} : Prim2 K (rNotInA K) (inG true) := fun W H x y v w Q a hK sm rx ry e af => (pr_inX (K := K) sm rx ry e af).imp (fun ⟨c, z, e1, e2, q⟩ => ⟨c, z, e1, e2, by simpa using q⟩) id
/-- is None -/
def isN (d : D) : Bool := match d with
  | .non => true
  | _ => false
def isNG (neg : Bool) (x y : D) : Option (D × Bool) := match y with
  | .non => some (.bl (neg ^^ isN x), false)
  | _ => none
theorem isN_rep {W : Wd} {H : Hp} {x : D} {v : V} (r : RepH W H x v) : decide (v = .non) = isN x := by
  cases x with
  | non => rw [r.non]; rfl
  | bl b => rw [r.bl]; rfl
  | int i => rw [r.int]; rfl
  | str z => rw [r.str]; rfl
  | ref n =>
    rcases r with ⟨a, _, rfl⟩ | ⟨_, _, _, _, z⟩
    · rfl
    · exact False.elim z
  | exn c fs ds =>
    rcases r with ⟨a, _, _, rfl, _⟩ | ⟨_, _, _, _, z⟩
    · rfl
    · exact False.elim z
  | nd k ds =>
    rcases r with ⟨a, rfl, _⟩ | ⟨a, _, rfl, _⟩
    · rfl
    · rfl
theorem pr_isN {K : PySem.W.Frag} : Prim2 K (fun x y H Q => y = .non ∧ Q (.bl (decide (x = .non))) H) (isNG false) := fun W H x y v w Q a hK sm rx ry e af => by
  unfold isNG at e
  split at e
  · cases e
    refine ⟨ry.non, ?_⟩
    rw [isN_rep rx]
    exact (by simpa using af.flat (v := .bl (false ^^ isN x)) sm rfl)
  · cases e
theorem pr_notN {K : PySem.W.Frag} : Prim2 K (fun x y H Q => y = .non ∧ Q (.bl (!decide (x = .non))) H) (isNG true) := fun W H x y v w Q a hK sm rx ry e af => by
  unfold isNG at e
  split at e
  · cases e
    refine ⟨ry.non, ?_⟩
    rw [isN_rep rx]
    exact (by simpa using af.flat (v := .bl (true ^^ isN x)) sm rfl)
  · cases e
/-! ### subscripts -/
def ixG (x y : D) : Option (D × Bool) := match x, y with
  | .nd k ds, .int i => if k = .lst ∨ k = .tup then (match atI ds i with
    | some d => some (d, false)
    | none => none) else none
  | .str z, .int i => if z.length ≤ sizeLine then (match atI z.cps.toList i with
    | some c => some (.str ⟨#[c]⟩, false)
    | none => none) else none
  | _, _ => none
theorem Reps.atI {W : Wd} {ds : List D} {vs : List V} {i : Int} {d : D} (r : Reps W ds vs) (h : L2.atI ds i = some d) : ∃ v, L2.atI vs i = some v ∧ Rep W d v := by
  unfold L2.atI at h ⊢
  rw [r.length]
  cases e : ixN ds.length i with
  | none => rw [e] at h; cases h
  | some j => rw [e] at h; exact r.get h
theorem pr_ix {K : PySem.W.Frag} : Prim2 K (rIx K) ixG := fun W H x y v w Q a hK sm rx ry e af => by
  unfold ixG at e
  split at e
  · rename_i k ds i
    split at e
    · rename_i hk
      split at e
      · rename_i d ed
        cases e
        rcases hk with rfl | rfl
        · obtain ⟨p, us, rfl, hp, rp⟩ := rx.lst sm
          obtain ⟨u, hu, ru⟩ := rp.atI ed
          exact .inl ⟨p, us, i, u, rfl, ry.int, SqL.of hp, hu, af.flat sm ru⟩
        · obtain ⟨p, us, rfl, hp, rp⟩ := rx.tup sm
          obtain ⟨u, hu, ru⟩ := rp.atI ed
          exact .inr (.inl ⟨p, us, i, u, rfl, ry.int, SqT.of hp, hu, af.flat sm ru⟩)
      · cases e
    · cases e
  · split at e
    · rename_i hl
      split at e
      · rename_i c ec
        cases e
        exact .inr (.inr ⟨_, _, c, rx.str, ry.int, hl, ec, af.flat sm rfl⟩)
      · cases e
    · cases e
  · cases e
end TD

end
section
set_option maxRecDepth 100000
set_option maxHeartbeats 4000000
/-! TdL: slices, calls of built-ins, methods, stores. -/
namespace TD
open PySem L2

/-! ### slices -/
def cutL {α : Type} (xs : List α) (lo hi : Option Int) : List α := (xs.drop (HT.sIx xs.length 0 lo)).take (HT.sIx xs.length xs.length hi - HT.sIx xs.length 0 lo)
theorem Reps.drop {W : Wd} : ∀ {ds : List D} {vs : List V} (n : Nat), Reps W ds vs → Reps W (ds.drop n) (vs.drop n)
  | _, _, 0, r => r
  | [], vs, n + 1, r => by cases (show vs = [] from r); exact rfl
  | d :: ds, _, n + 1, ⟨v, r, e, h, t⟩ => by subst e; exact Reps.drop n t
theorem Reps.take {W : Wd} : ∀ {ds : List D} {vs : List V} (n : Nat), Reps W ds vs → Reps W (ds.take n) (vs.take n)
  | ds, vs, 0, r => rfl
  | [], vs, n + 1, r => by cases (show vs = [] from r); exact rfl
  | d :: ds, _, n + 1, ⟨v, r, e, h, t⟩ => by subst e; exact ⟨v, _, rfl, h, Reps.take n t⟩
theorem Reps.cut {W : Wd} {ds : List D} {vs : List V} {lo hi : Option Int} (r : Reps W ds vs) : Reps W (cutL ds lo hi) (cutV vs lo hi) := by
  unfold cutL cutV
  rw [r.length]
  exact (r.drop _).take _
def slcG (x : D) (lo hi : Option Int) : Option (D × Bool) := match x with
  | .nd .lst ds => some (.nd .lst (cutL ds lo hi), true)
  | .nd .tup ds => if HT.sIx ds.length 0 lo = 0 ∧ HT.sIx ds.length ds.length hi = ds.length then none else some (.nd .tup (cutL ds lo hi), false)
  | .str z => if z.length ≤ sizeLine then some (.str (cutS z lo hi), false) else none
  | _ => none
def kO : Rk (Option Int) (Option Int) := ⟨fun _ _ _ _ _ a b => a = b, fun _ h => h⟩
def POD (X : Cx) (e : Option Expr) (f : S → Ou (Option Int)) : Prop := ∀ Wx, Takes X Wx → PO X e (tD kO X.K X.mg Wx f)
theorem PO.imp {X : Cx} {e : Option Expr} {t t' : TO} (h : PO X e t) (i : ∀ s H Q, t' s H Q → t s H Q) : PO X e t' := ⟨fun pins s σ H Q I q => h.run pins s σ H Q I (i _ _ _ q)⟩
theorem POD.none {X : Cx} : POD X Option.none (eC Option.none) := fun Wx tk => PO.imp po_none fun t H Q ⟨W, s, o, R, q⟩ => Po.pure q R rfl
def oInt (f : S → Ou D) : S → Ou (Option Int) := fun s => (f s).bind fun d s1 => match d with
  | .int i => .ok (some i) s1
  | _ => .bad
theorem POD.some {X : Cx} {e : Expr} {f : S → Ou D} (h : PD kF X e f) : POD X (some e) (oInt f) := fun Wx tk => PO.imp (po_some (h Wx tk)) fun t H Q ⟨W, s, o, R, q⟩ => ⟨W, s, o, R, Po.bind q fun d v s1 W1 H1 st ln R1 rx q1 => by
  cases d with
  | int i => exact ⟨i, rx, Po.pure q1 R1 rfl⟩
  | _ => exact False.elim q1⟩
def eSlc (fa : S → Ou Ar) (fl fh : S → Ou (Option Int)) : S → Ou (D × Bool) := fun s => (fa s).bind fun x s1 => (fl s1).bind fun lo s2 => (fh s2).bind fun hi s3 => match s3.look x with
  | some d => match slcG d lo hi with
    | some r => .ok r s3
    | none => .bad
  | none => .bad
theorem PD.slc {X : Cx} {e : Expr} {lo hi : Option Expr} {pos p2 : Pos} {fa : S → Ou Ar} {fl fh : S → Ou (Option Int)} (ha : PD kA X e fa) (hl : POD X lo fl) (hh : POD X hi fh) : PD kV X (.Subscript e (.Slice lo hi none p2) pos) (eSlc fa fl fh) := fun Wx tk =>
  PE.imp (pe_slice ((sl_list.or sl_tup).or sl_str) (ha Wx tk) (hl Wx tk) (hh Wx tk)) fun t H Q ⟨W, s, o, R, q⟩ => ⟨W, s, o, R, Po.bind q fun x v s1 W1 H1 st ln R1 rx q1 => ⟨W1, s1, o.le st.le, R1, Po.bind q1 fun l l' s2 W2 H2 st2 ln2 R2 rl q2 => ⟨W2, s2, (o.le st.le).le st2.le, R2, Po.bind q2 fun u u' s3 W3 H3 st3 ln3 R3 ru q3 => by
    cases (show l = l' from rl)
    cases (show u = u' from ru)
    split at q3
    · rename_i d ed
      have rd := R3.look (RepA.mono (st2.le.trans st3.le) rx) ed
      have sm := R3.hr.same
      split at q3
      · rename_i r er
        have af := Po.aft R3 q3
        unfold slcG at er
        split at er
        · cases er
          obtain ⟨a, xs, rfl, hH, rs⟩ := rd.lst sm
          exact .inl (.inl ⟨a, xs, rfl, SqL.of hH, fun p hp => af.lst sm hp ⟨_, rfl, rs.cut⟩⟩)
        · split at er
          · cases er
          · rename_i hn
            cases er
            obtain ⟨a, xs, rfl, hH, rs⟩ := rd.tup sm
            exact .inl (.inr ⟨a, xs, rfl, SqT.of hH, by rw [rs.length]; exact hn, fun p hp => af.tup sm hp rs.cut⟩)
        · split at er
          · rename_i hz
            cases er
            exact .inr ⟨_, rd.str, hz, af.flat sm rfl⟩
          · cases er
        · cases er
      · exact False.elim q3
    · exact False.elim q3⟩⟩⟩

/-! ### calls of built-ins -/
/-- a list, a tuple, the script -/
def seqD : D → Option (List D)
  | .nd .lst ds => some ds
  | .nd .tup ds => some ds
  | .nd .scr ds => some ds
  | _ => none
theorem seq_rep {K : PySem.W.Frag} {W : Wd} {H : Hp} {d : D} {v : V} {ds : List D} (sm : Same W.F H) (r : RepH W H d v) (e : seqD d = some ds) : ∃ a xs, v = .ref a ∧ (SqL K H a xs ∨ SqT K H a xs) ∧ Reps W ds xs := by
  unfold seqD at e
  split at e
  · cases e
    obtain ⟨a, xs, rfl, h, rs⟩ := r.lst sm
    exact ⟨a, xs, rfl, .inl (SqL.of h), rs⟩
  · cases e
    obtain ⟨a, xs, rfl, h, rs⟩ := r.tup sm
    exact ⟨a, xs, rfl, .inr (SqT.of h), rs⟩
  · cases e
    obtain ⟨a, o, xs, rfl, h, rs⟩ := r.scr sm
    exact ⟨a, xs, rfl, .inl (.inl (.inr ⟨o, h⟩)), rs⟩
  · cases e
def lenG : List D → Option (D × Bool)
  | [.str z] => if z.length ≤ sizeLine then some (.int z.length, false) else none
  | [d] => match seqD d with
    | some ds => some (.int ds.length, false)
    | none => none
  | _ => none
theorem pr_len {K : PySem.W.Frag} : PrimN K (fun xs H Q => ∃ x n, xs = [x] ∧ LenV K x H n ∧ Q (.int n) H) lenG := fun W H ds vs Q a hK sm r e af => by
  unfold lenG at e
  split at e
  · split at e
    · rename_i h
      cases e
      obtain ⟨v, rfl, r1⟩ := r.one
      cases r1.str
      exact ⟨_, _, rfl, ⟨h, rfl⟩, af.flat sm rfl⟩
    · cases e
  · split at e
    · rename_i xs es
      cases e
      obtain ⟨v, rfl, r1⟩ := r.one
      obtain ⟨p, us, rfl, hp, rs⟩ := seq_rep (K := K) sm r1 es
      refine ⟨_, _, rfl, hp.imp (fun h => ⟨us, h, rfl⟩) (fun h => ⟨us, h, rfl⟩), ?_⟩
      exact af.flat sm (by rw [rs.length]; exact rfl)
    · cases e
  · cases e
def isBl : D → Option Bool
  | .bl b => some b
  | _ => none
theorem isBl_rep {W : Wd} {d : D} {v : V} {b : Bool} (r : Rep W d v) (e : isBl d = some b) : v = .bl b := by
  unfold isBl at e
  split at e
  · cases e
    exact r
  · cases e
def bools : List D → Option (List Bool)
  | [] => some []
  | d :: r => match isBl d, bools r with
    | some b, some bs => some (b :: bs)
    | _, _ => none
theorem bools_rep {W : Wd} : ∀ {ds : List D} {vs : List V} {bs : List Bool}, Reps W ds vs → bools ds = some bs → vs = bs.map V.bl
  | [], _, _, r, e => by cases e; exact r
  | d :: ds, _, _, ⟨v, r, e1, h, t⟩, e => by
    subst e1
    unfold bools at e
    split at e
    · rename_i b bs e2 e3
      cases e
      rw [isBl_rep h e2, bools_rep t e3]
      rfl
    · cases e
def allG : List D → Option (D × Bool)
  | [.nd .lst ds] => match bools ds with
    | some bs => some (.bl (bs.all id), false)
    | none => none
  | _ => none
def anyG : List D → Option (D × Bool)
  | [.nd .lst ds] => match bools ds with
    | some bs => some (.bl (bs.any id), false)
    | none => none
  | _ => none
theorem pr_all {K : PySem.W.Frag} : PrimN K (rAll K) allG := fun W H ds vs Q a hK sm r e af => by
  unfold allG at e
  split at e
  · split at e
    · rename_i bs es
      cases e
      obtain ⟨v, rfl, r1⟩ := r.one
      obtain ⟨p, us, rfl, hp, rs⟩ := r1.lst sm
      cases bools_rep rs es
      exact ⟨p, bs, rfl, SqL.of hp, af.flat sm rfl⟩
    · cases e
  · cases e
theorem pr_any {K : PySem.W.Frag} : PrimN K (rAny K) anyG := fun W H ds vs Q a hK sm r e af => by
  unfold anyG at e
  split at e
  · split at e
    · rename_i bs es
      cases e
      obtain ⟨v, rfl, r1⟩ := r.one
      obtain ⟨p, us, rfl, hp, rs⟩ := r1.lst sm
      cases bools_rep rs es
      exact ⟨p, bs, rfl, SqL.of hp, af.flat sm rfl⟩
    · cases e
  · cases e
/-- list(x) -/
def listG : List D → Option (D × Bool)
  | [d] => match seqD d with
    | some ds => some (.nd .lst ds, true)
    | none => none
  | _ => none
theorem pr_list {K : PySem.W.Frag} : PrimN K (fun xs H Q => ∃ p ys, xs = [.ref p] ∧ (SqL K H p ys ∨ SqT K H p ys) ∧ ∀ l, H l = none → Q (.ref l) (upd H l (.lst ys))) listG := fun W H ds vs Q a hK sm r e af => by
  unfold listG at e
  split at e
  · split at e
    · rename_i xs es
      cases e
      obtain ⟨v, rfl, r1⟩ := r.one
      obtain ⟨p, us, rfl, hp, rs⟩ := seq_rep (K := K) sm r1 es
      exact ⟨p, us, rfl, hp, fun l hl => af.lst sm hl ⟨us, rfl, rs⟩⟩
    · cases e
  · cases e
/-- tuple(x) -/
def tupleG : List D → Option (D × Bool)
  | [.nd .lst ds] => some (.nd .tup ds, false)
  | [.nd .tup ds] => some (.nd .tup ds, false)
  | _ => none
theorem pr_tuple {K : PySem.W.Frag} : PrimN K (fun xs H Q => ∃ p ys, xs = [.ref p] ∧ ((SqL K H p ys ∧ ∀ l, H l = none → Q (.ref l) (upd H l (.tup ys))) ∨ (SqT K H p ys ∧ Q (.ref p) H))) tupleG := fun W H ds vs Q a hK sm r e af => by
  unfold tupleG at e
  split at e
  · cases e
    obtain ⟨v, rfl, r1⟩ := r.one
    obtain ⟨p, us, rfl, hp, rs⟩ := r1.lst sm
    exact ⟨p, us, rfl, .inl ⟨SqL.of hp, fun l hl => af.tup sm hl rs⟩⟩
  · cases e
    obtain ⟨v, rfl, r1⟩ := r.one
    obtain ⟨p, us, rfl, hp, rs⟩ := r1.tup sm
    exact ⟨p, us, rfl, .inr ⟨SqT.of hp, af.flat sm r1.tupF⟩⟩
  · cases e
/-- str(x) of an int, of a text -/
def strGq : List D → Option (D × Bool)
  | [.int i] => if i.natAbs < 2 ^ 64 then some (.str (toString i : String), false) else none
  | [.str z] => some (.str z, false)
  | _ => none
theorem log_small {i : Int} (h : i.natAbs < 2 ^ 64) : i.natAbs.log2 < 1920 := by
  by_cases h1 : i.natAbs = 0
  · rw [h1]
    decide
  · exact Nat.lt_trans ((Nat.log2_lt h1).mpr h) (by decide)
noncomputable def strG : List D → Option (D × Bool) := hide strGq
theorem strG_eq : strG = strGq := hide_eq _
theorem pr_str {K : PySem.W.Frag} : PrimN K (fun xs H Q => (∃ i, xs = [.int i] ∧ i.natAbs.log2 < 1920 ∧ Q (.str (toString i : String)) H) ∨ ∃ a, xs = [.str a] ∧ Q (.str a) H) strG := fun W H ds vs Q a hK sm r e af => by
  rw [strG_eq] at e
  unfold strGq at e
  split at e
  · split at e
    · rename_i h
      cases e
      obtain ⟨v, rfl, r1⟩ := r.one
      cases r1.int
      exact .inl ⟨_, rfl, log_small h, af.flat sm rfl⟩
    · cases e
  · cases e
    obtain ⟨v, rfl, r1⟩ := r.one
    cases r1.str
    exact .inr ⟨_, rfl, af.flat sm rfl⟩
  · cases e
theorem call_strA {X : Cx} : CallR X (.type "str") (fun xs H Q => (∃ i, xs = [.int i] ∧ i.natAbs.log2 < 1920 ∧ Q (.str (toString i : String)) H) ∨ ∃ a, xs = [.str a] ∧ Q (.str a) H) := CallR.or call_str_int SkE.call_str_str
/-- int(x) of a text -/
def intG1 : List D → Option (D × Bool)
  | [.str z] => if z.length ≤ 640 then (match PySem.intText? z with
    | some n => some (.int n, false)
    | none => none) else none
  | [.bl b] => some (.int (if b then 1 else 0), false)
  | [.int i] => some (.int i, false)
  | _ => none
theorem pr_intC {K : PySem.W.Frag} : PrimN K (fun xs H Q => (∃ a n, xs = [.str a] ∧ PySem.intText? a = some n ∧ a.length ≤ 640 ∧ Q (.int n) H) ∨ ((∃ i, xs = [.int i] ∧ Q (.int i) H) ∨ ∃ k, xs = [.bl k] ∧ Q (.int (if k then 1 else 0)) H)) intG1 := fun W H ds vs Q a hK sm r e af => by
  unfold intG1 at e
  split at e
  · split at e
    · rename_i h
      split at e
      · rename_i n en
        cases e
        obtain ⟨v, rfl, r1⟩ := r.one
        cases r1.str
        exact .inl ⟨_, n, rfl, en, h, af.flat sm rfl⟩
      · cases e
    · cases e
  · cases e
    obtain ⟨v, rfl, r1⟩ := r.one
    cases r1.bl
    exact .inr (.inr ⟨_, rfl, af.flat sm rfl⟩)
  · cases e
    obtain ⟨v, rfl, r1⟩ := r.one
    cases r1.int
    exact .inr (.inl ⟨_, rfl, af.flat sm rfl⟩)
  · cases e
theorem call_intA {X : Cx} : CallR X (.type "int") (fun xs H Q => (∃ a n, xs = [.str a] ∧ PySem.intText? a = some n ∧ a.length ≤ 640 ∧ Q (.int n) H) ∨ ((∃ i, xs = [.int i] ∧ Q (.int i) H) ∨ ∃ k, xs = [.bl k] ∧ Q (.int (if k then 1 else 0)) H)) := CallR.or call_int_str call_int1
/-- max, min of two ints -/
def maxG : List D → Option (D × Bool)
  | [.int i, .int j] => some (.int (if j > i then j else i), false)
  | _ => none
def minG : List D → Option (D × Bool)
  | [.int i, .int j] => some (.int (if j < i then j else i), false)
  | _ => none
theorem pr_max {K : PySem.W.Frag} : PrimN K (fun xs H Q => ∃ i j, xs = [.int i, .int j] ∧ Q (.int (if j > i then j else i)) H) maxG := fun W H ds vs Q a hK sm r e af => by
  unfold maxG at e
  split at e
  · cases e
    obtain ⟨v, w, rfl, r1, r2⟩ := r.two
    cases r1.int
    cases r2.int
    exact ⟨_, _, rfl, af.flat sm rfl⟩
  · cases e
theorem pr_min {K : PySem.W.Frag} : PrimN K (fun xs H Q => ∃ i j, xs = [.int i, .int j] ∧ Q (.int (if j < i then j else i)) H) minG := fun W H ds vs Q a hK sm r e af => by
  unfold minG at e
  split at e
  · cases e
    obtain ⟨v, w, rfl, r1, r2⟩ := r.two
    cases r1.int
    cases r2.int
    exact ⟨_, _, rfl, af.flat sm rfl⟩
  · cases e
end TD

end
section
set_option maxRecDepth 100000
set_option maxHeartbeats 4000000
/-! TdM: methods of built-in types, stores into lists. -/
namespace TD
open PySem L2
theorem Po.imp2 {α β : Type} {k : Rk α β} {W : Wd} {s : S} {t : St} {H : Hp} {Wx : WX} {Q Q' : β → Hp → Prop} {o : Ou α} (h : Po k W s t H Wx Q o) (i : ∀ v H', Q v H' → Q' v H') : Po k W s t H Wx Q' o := by
  cases o with
  | ok d s1 => exact fun v W' H' st ln R rv => i _ _ (h v W' H' st ln R rv)
  | ex e s1 => exact h
  | bad => exact h

/-- the built-in type of a tree whose methods are called -/
def tyD : D → String
  | .str _ => "str"
  | .nd .lst _ => "list"
  | .nd .dct _ => "dict"
  | _ => ""
theorem ty_rep {K : PySem.W.Frag} {W : Wd} {H : Hp} {d : D} {v : V} {T : String} (sm : Same W.F H) (r : RepH W H d v) (e : tyD d = T) (hT : T ≠ "") : tyV K T v H := by
  subst e
  unfold tyD at hT ⊢
  split at hT
  · rw [r.str]
    rfl
  · obtain ⟨a, xs, rfl, h, _⟩ := r.lst sm
    exact .inl ⟨rfl, xs, SqL.of h⟩
  · obtain ⟨a, rfl, h⟩ := r.dct sm
    exact .inr (.inr (.inl ⟨rfl, h.imp (fun ⟨k, h, _⟩ => ⟨k, h⟩) fun ⟨k, h, _⟩ => ⟨k, h⟩⟩))
  · exact absurd rfl hT
/-- a method that changes nothing -/
def PrimMt (K : PySem.W.Frag) (r : V → List V → Hp → VK → Prop) (g : D → List D → Option (D × Bool)) : Prop := ∀ (W : Wd) (H : Hp) (d : D) (ds : List D) (v : V) (vs : List V) (Q : VK) (a : D × Bool), W.K = K → Same W.F H → RepH W H d v → RepHs W H ds vs → g d ds = some a → Aft W H Q a → r v vs H Q
def eMeth (T : String) (g : D → List D → Option (D × Bool)) (fo : S → Ou Ar) (fs : S → Ou (List Ar)) : S → Ou (D × Bool) := fun s => (fo s).bind fun x s1 => match s1.look x with
  | some d => if tyD d = T then (fs s1).bind fun xs s2 => (match s2.look x, s2.looks xs with
      | some d, some ds => (match g d ds with
        | some r => .ok r s2
        | none => .bad)
      | _, _ => .bad) else .bad
  | none => .bad
theorem tD_meth {K : PySem.W.Frag} {mg : Str → Option Value} {Wx : WX} {T : String} {r : V → List V → Hp → VK → Prop} {g : D → List D → Option (D × Bool)} {fo : S → Ou Ar} {fs : S → Ou (List Ar)} {t : St} {H : Hp} {Q : VK} (hT : T ≠ "") (hp : PrimMt K r g) (h : tD kV K mg Wx (eMeth T g fo fs) t H Q) :
    tBM K T r (tD kA K mg Wx fo) (tD kAs K mg Wx fs) t H Q := by
  obtain ⟨W, s, o, R, q⟩ := h
  refine ⟨W, s, o, R, Po.bind q fun x v s1 W1 H1 st ln R1 rx q1 => ?_⟩
  split at q1
  · rename_i d0 e0
    split at q1
    · rename_i eT
      refine ⟨ty_rep R1.hr.same (R1.look rx e0) eT hT, W1, s1, o.le st.le, R1, Po.bind q1 fun xs vs s2 W2 H2 st2 ln2 R2 rxs q2 => ?_⟩
      split at q2
      · rename_i d ds e1 e2
        split at q2
        · rename_i a ea
          exact hp W2 H2 d ds v vs Q a ((o.le st.le).le st2.le).K R2.hr.same (R2.look (RepA.mono st2.le rx) e1) (R2.looks rxs e2) ea (Po.aft R2 q2)
        · exact False.elim q2
      · exact False.elim q2
    · exact False.elim q1
  · exact False.elim q1
section
variable {X : Cx} {o e : Expr} {es : List Expr} {name : Str} {apos cpos : Pos} {T id : String} {r : V → List V → Hp → VK → Prop} {g : D → List D → Option (D × Bool)} {fo : S → Ou Ar} {fs : S → Ou (List Ar)}
theorem PD.meth (pa : PlainAttrs T) (slot : Slot T name id) (hty : typeOf (.builtin id) = pure (.type "method_descriptor")) (hm : MtR X id r) (hT : T ≠ "") (hp : PrimMt X.K r g) (ho : PD kA X o fo) (ha : PAD kAs X (e :: es) fs)
    (hbase : attributeBase o name X.env (eval o X.env) = eval o X.env)
    (hfew : ((backTo cpos (starEach (e :: es) X.env)).all (fun x => !x.1) && (backToKw cpos (keywordEach [] X.env)).all (fun x => x.1.isSome) && decide ((e :: es).length + ([] : List Keyword).length + (if ([] : List Keyword).isEmpty then 0 else 1) < 30)) = true)
    (hline : (apos.endLine == cpos.line) = true) (hs : starEach (e :: es) X.env = (false, eval e X.env) :: starEach es X.env) (hplain : (backTo cpos (starEach es X.env)).any (·.1) = false) : PD kV X (.Call (.Attribute o name apos) (e :: es) [] cpos) (eMeth T g fo fs) := fun Wx tk =>
  PE.imp (pe_bm pa slot hty hm (ho Wx tk) (ha Wx tk) hbase hfew hline hs hplain) fun t H Q h => tD_meth hT hp h
theorem PD.meth0 (pa : PlainAttrs T) (slot : Slot T name id) (hty : typeOf (.builtin id) = pure (.type "method_descriptor")) (hm : MtR X id r) (hT : T ≠ "") (hp : PrimMt X.K r g) (ho : PD kA X o fo)
    (hbase : attributeBase o name X.env (eval o X.env) = eval o X.env) (hline : (apos.endLine == cpos.line) = true) : PD kV X (.Call (.Attribute o name apos) [] [] cpos) (eMeth T g fo fun s => .ok [] s) := fun Wx tk =>
  PE.imp (pe_bm0 pa slot hty hm (ho Wx tk) hbase hline) fun t H Q h => by
    obtain ⟨W, s, o, R, q⟩ := tD_meth (K := X.K) (mg := X.mg) (Wx := Wx) hT hp h
    refine ⟨W, s, o, R, Po.imp2 q fun v H' z => ⟨z.1, ?_⟩⟩
    obtain ⟨W2, s2, o2, R2, q2⟩ := z.2
    exact Po.pure q2 R2 .nil
end
/-! texts -/
def strsD : List D → Option (List Str)
  | [] => some []
  | d :: r => match (match d with | .str x => some x | _ => none), strsD r with
    | some x, some xs => some (x :: xs)
    | _, _ => none
theorem strs_rep {W : Wd} : ∀ {ds : List D} {vs : List V} {xs : List Str}, Reps W ds vs → strsD ds = some xs → vs = xs.map V.str
  | [], _, _, r, e => by cases e; exact r
  | d :: ds, _, _, ⟨v, r, e1, h, t⟩, e => by
    subst e1
    unfold strsD at e
    split at e
    · rename_i x xs e2 e3
      cases e
      split at e2
      · cases e2
        rw [show v = .str x from h, strs_rep t e3]
        rfl
      · cases e2
    · cases e
def joinG (d : D) (ds : List D) : Option (D × Bool) := match d, ds with
  | .str a, [x] => match seqD x with
    | some xs => match strsD xs with
      | some ys => if (ys.map (·.length)).sum + ys.length * a.length ≤ 16777216 then some (.str (Txt.join a ys), false) else none
      | none => none
    | none => none
  | _, _ => none
def rJoinA (K : PySem.W.Frag) : V → List V → Hp → VK → Prop := fun x xs H Q => ∃ a p, ∃ ys : List Str, x = .str a ∧ xs = [.ref p] ∧ (SqL K H p (ys.map V.str) ∨ SqT K H p (ys.map V.str)) ∧ (ys.map (·.length)).sum + ys.length * a.length ≤ 16777216 ∧ Q (.str (Txt.join a ys)) H
theorem pr_join {K : PySem.W.Frag} : PrimMt K (rJoinA K) joinG := fun W H d ds v vs Q a hK sm r rs e af => by
  unfold joinG at e
  split at e
  · split at e
    · rename_i xs e1
      split at e
      · rename_i ys e2
        split at e
        · rename_i hz
          cases e
          obtain ⟨w, rfl, r1⟩ := rs.one
          obtain ⟨p, us, rfl, hp, rr⟩ := seq_rep (K := K) sm r1 e1
          cases strs_rep rr e2
          exact ⟨_, p, ys, r.str, rfl, hp, hz, af.flat sm rfl⟩
        · cases e
      · cases e
    · cases e
  · cases e
def splitG (d : D) (ds : List D) : Option (D × Bool) := match d, ds with
  | .str a, [.str b] => if (b.length == 0) = false ∧ a.length + 2 ≤ sizeLine then some (.nd .lst ((Txt.split a b).map .str), true) else none
  | _, _ => none
theorem reps_strs {W : Wd} : ∀ xs : List Str, Reps W (xs.map .str) (xs.map V.str)
  | [] => rfl
  | x :: xs => ⟨.str x, _, rfl, rfl, reps_strs xs⟩
theorem pr_split {K : PySem.W.Frag} : PrimMt K (fun x xs H Q => ∃ a b, x = .str a ∧ xs = [.str b] ∧ (b.length == 0) = false ∧ a.length + 2 ≤ sizeLine ∧ rNewStrs (Txt.split a b) H Q) splitG := fun W H d ds v vs Q a hK sm r rs e af => by
  unfold splitG at e
  split at e
  · split at e
    · rename_i h
      cases e
      obtain ⟨w, rfl, r1⟩ := rs.one
      cases r1.str
      exact ⟨_, _, r.str, rfl, h.1, h.2, fun p hp => af.lst sm hp ⟨_, rfl, reps_strs _⟩⟩
    · cases e
  · cases e

/-! ### stores -/
theorem Rel.mutOwn {W : Wd} {s : S} {t : St} {H : Hp} {i : Nat} {lk : Bool} {d d' : D} {a : Addr} {o' : HO} (R : Rel W s t H) (h : s.r[i]? = some (.own lk d)) (ht : t[i]? = some (some (.ref a))) (r : ORep W d' o') :
    Rel W (s.set i (.own lk d')) t (upd H a o') ∧ Step W (Ow s t) H W (Ow (s.set i (.own lk d')) t) (upd H a o') := by
  have hi := (List.getElem?_eq_some_iff.mp h).1
  obtain ⟨b, o, h1, hF, hio, hH, ro⟩ := R.own i lk d h
  rw [ht] at h1
  cases h1
  have ow : Own s t i a := ⟨⟨lk, d, h⟩, ht⟩
  have ho : ∀ j b, Own (s.set i (.own lk d')) t j b ↔ Own s t j b := fun j b => by
    constructor
    · rintro ⟨⟨l, e, h1⟩, h2⟩
      have h1 : (s.r.set i (.own lk d'))[j]? = some (.own l e) := h1
      rcases getD_set h1 with ⟨rfl, _⟩ | ⟨_, q⟩
      · exact ⟨⟨lk, d, h⟩, h2⟩
      · exact ⟨⟨l, e, q⟩, h2⟩
    · rintro ⟨⟨l, e, h1⟩, h2⟩
      by_cases hj : j = i
      · subst hj
        exact ⟨⟨lk, d', List.getElem?_set_self hi⟩, h2⟩
      · exact ⟨⟨l, e, (List.getElem?_set_ne (Ne.symm hj)).trans h1⟩, h2⟩
  refine ⟨⟨⟨fun b x q => (upd_ne (ne_of_none q hF)).trans (R.hr.same b x q), R.hr.nd, R.hr.len, fun n e q => ?_⟩, (List.length_set ..).trans R.len, fun j e q => ?_, fun j l e q => ?_, fun j k b h1 h2 => R.one j k b ((ho j b).mp h1) ((ho k b).mp h2)⟩,
    ⟨.refl W, fun b x h1 h2 h3 => (upd_ne (show b ≠ a from fun e => h3 ⟨i, by rw [e]; exact ow⟩)).trans h1, fun b hb => ?_, fun _ h => .inl h, fun _ h => .inl h, fun b ⟨j, z⟩ => .inl ⟨j, (ho j b).mp z⟩⟩⟩
  · obtain ⟨b, u, h1, h2, h3, h4⟩ := R.hr.at_ n e q
    exact ⟨b, u, h1, h2, (upd_ne (show b ≠ a from fun z => hio (by rw [← z]; exact List.mem_of_getElem? h1))).trans h3, h4⟩
  · have q : (s.r.set i (.own lk d'))[j]? = some (.fz e) := q
    rcases getD_set q with ⟨_, z⟩ | ⟨_, z⟩
    · cases z
    · exact R.fz j e z
  · have q : (s.r.set i (.own lk d'))[j]? = some (.own l e) := q
    rcases getD_set q with ⟨rfl, z⟩ | ⟨hj, z⟩
    · cases z
      exact ⟨a, o', ht, hF, hio, upd_same, r⟩
    · obtain ⟨b, u, h1, h2, h3, h4, h5⟩ := R.own j l e z
      have hb : b ≠ a := fun eb => hj (R.one j i a ⟨⟨l, e, z⟩, by rw [← eb]; exact h1⟩ ow)
      exact ⟨b, u, h1, h2, h3, (upd_ne hb).trans h4, h5⟩
  · by_cases e : b = a
    · rw [e, upd_same]
      exact fun z => nomatch z
    · rw [upd_ne e]
      exact hb
theorem Rel.mutHp {W : Wd} {s : S} {t : St} {H : Hp} {n : Nat} {d d' : D} {a : Addr} {o' : HO} (R : Rel W s t H) (h : s.h[n]? = some d) (ht : W.io[n]? = some a) (r : ORep W d' o') :
    Rel W { s with h := s.h.set n d' } t (upd H a o') ∧ Step W (Ow s t) H W (Ow { s with h := s.h.set n d' } t) (upd H a o') := by
  have hn := (List.getElem?_eq_some_iff.mp h).1
  obtain ⟨b, o, h1, hF, hH, ro⟩ := R.hr.at_ n d h
  rw [ht] at h1
  cases h1
  have hm : a ∈ W.io := List.mem_of_getElem? ht
  refine ⟨⟨⟨fun b x q => (upd_ne (ne_of_none q hF)).trans (R.hr.same b x q), R.hr.nd, R.hr.len.trans (List.length_set ..).symm, fun m e q => ?_⟩, R.len, R.fz, fun j l e q => ?_, R.one⟩,
    ⟨.refl W, fun b x h1 h2 h3 => (upd_ne (show b ≠ a from fun e => h2 (by rw [e]; exact hm))).trans h1, fun b hb => ?_, fun _ h => .inl h, fun _ h => .inl h, fun b z => .inl z⟩⟩
  · have q : (s.h.set n d')[m]? = some e := q
    rcases getD_set q with ⟨rfl, rfl⟩ | ⟨hmn, z⟩
    · exact ⟨a, o', ht, hF, upd_same, r⟩
    · obtain ⟨b, u, h1, h2, h3, h4⟩ := R.hr.at_ m e z
      have hb : b ≠ a := fun eb => by
        subst eb
        have h5 := (List.getElem?_eq_some_iff.mp h1)
        have h6 := (List.getElem?_eq_some_iff.mp ht)
        obtain ⟨l1, g1⟩ := h5
        obtain ⟨l2, g2⟩ := h6
        exact hmn ((List.getElem_inj R.hr.nd).mp (g1.trans g2.symm))
      exact ⟨b, u, h1, h2, (upd_ne hb).trans h3, h4⟩
  · obtain ⟨b, u, h1, h2, h3, h4, h5⟩ := R.own j l e q
    exact ⟨b, u, h1, h2, h3, (upd_ne (show b ≠ a from fun z => h3 (by rw [z]; exact hm))).trans h4, h5⟩
  · by_cases e : b = a
    · rw [e, upd_same]
      exact fun z => nomatch z
    · rw [upd_ne e]
      exact hb
/-- a changed node goes back where it stands -/
def S.put (s : S) (d' : D) : Ar → Option S
  | .v d => match d with
    | .ref n => some { s with h := s.h.set n d' }
    | _ => none
  | .sl i => match s.r[i]? with
    | some (.own false _) => some (s.set i (.own false d'))
    | some (.fz (.ref n)) => some { s with h := s.h.set n d' }
    | _ => none
theorem lent_own {s : S} {t : St} {i : Nat} {d d' : D} (h : s.r[i]? = some (.own false d)) : Lent s (s.set i (.own false d')) t t := fun j e q => by
  refine ⟨?_, rfl⟩
  have hj : j ≠ i := fun z => by
    rw [z, h] at q
    cases q
  show (s.r.set i _)[j]? = _
  rw [List.getElem?_set_ne (Ne.symm hj)]
  exact q
theorem Rel.put1 {W : Wd} {s s' : S} {t : St} {H : Hp} {x : Ar} {v : V} {d d' : D} (R : Rel W s t H) (rx : RepA W t x v) (h : s.look x = some d) (hp : s.put d' x = some s') :
    ∃ a o, v = .ref a ∧ W.F a = none ∧ H a = some o ∧ ORep W d o ∧ Lent s s' t t ∧ ∀ o', ORep W d' o' → Rel W s' t (upd H a o') ∧ Step W (Ow s t) H W (Ow s' t) (upd H a o') := by
  have hpc : ∀ {n : Nat}, Rep W (.ref n) v → s.h[n]? = some d → s' = { s with h := s.h.set n d' } → ∃ a o, v = .ref a ∧ W.F a = none ∧ H a = some o ∧ ORep W d o ∧ Lent s s' t t ∧ ∀ o', ORep W d' o' → Rel W s' t (upd H a o') ∧ Step W (Ow s t) H W (Ow s' t) (upd H a o') := fun {n} r h e => by
    subst e
    obtain ⟨a, h1, rfl⟩ := r
    obtain ⟨b, o, h2, hF, hH, ro⟩ := R.hr.at_ n d h
    rw [h1] at h2
    cases h2
    exact ⟨a, o, rfl, hF, hH, ro, fun _ _ q => ⟨q, rfl⟩, fun o' r' => R.mutHp h h1 r'⟩
  cases x with
  | v e =>
    unfold S.look at h
    unfold S.put at hp
    dsimp only at h hp
    split at hp
    · cases hp
      exact hpc rx h rfl
    · cases hp
  | sl i =>
    have rx : t[i]? = some (some v) := rx
    unfold S.look at h
    unfold S.put at hp
    dsimp only at h hp
    split at hp
    · rename_i d0 e
      rw [e] at h
      cases h
      cases hp
      obtain ⟨a, o, h1, hF, hi, hH, ro⟩ := R.own i _ _ e
      rw [rx] at h1
      cases h1
      exact ⟨a, o, rfl, hF, hH, ro, lent_own e, fun o' r' => R.mutOwn e rx r'⟩
    · rename_i n e
      rw [e] at h
      cases hp
      obtain ⟨w, h1, h2⟩ := R.fz i _ e
      rw [rx] at h1
      cases h1
      exact hpc h2 h rfl
    · cases hp
/-- a method that changes its receiver -/
def PrimM (K : PySem.W.Frag) (r : V → List V → Hp → VK → Prop) (g : D → List D → Option (D × D)) : Prop := ∀ (W : Wd) (H : Hp) (d : D) (ds : List D) (a : Addr) (o : HO) (vs : List V) (Q : VK) (d' res : D), W.K = K → Same W.F H → H a = some o → ORep W d o → Reps W ds vs → g d ds = some (d', res) →
  (∀ o' v', ORep W d' o' → Rep W res v' → Q v' (upd H a o')) → r (.ref a) vs H Q
def eMut (T : String) (g : D → List D → Option (D × D)) (fo : S → Ou Ar) (fs : S → Ou (List D)) : S → Ou D := fun s => (fo s).bind fun x s1 => match s1.look x with
  | some d => if tyD d = T then (fs s1).bind fun ds s2 => (match s2.look x with
      | some d => (match g d ds with
        | some r => (match s2.put r.1 x with
          | some s3 => .ok r.2 s3
          | none => .bad)
        | none => .bad)
      | none => .bad) else .bad
  | none => .bad
theorem tD_mut {K : PySem.W.Frag} {mg : Str → Option Value} {Wx : WX} {T : String} {r : V → List V → Hp → VK → Prop} {g : D → List D → Option (D × D)} {fo : S → Ou Ar} {fs : S → Ou (List D)} {t : St} {H : Hp} {Q : VK} (hT : T ≠ "") (hp : PrimM K r g) (h : tD kF K mg Wx (eMut T g fo fs) t H Q) :
    tBM K T r (tD kA K mg Wx fo) (tD kFs K mg Wx fs) t H Q := by
  obtain ⟨W, s, o, R, q⟩ := h
  refine ⟨W, s, o, R, Po.bind q fun x v s1 W1 H1 st ln R1 rx q1 => ?_⟩
  split at q1
  · rename_i d0 e0
    split at q1
    · rename_i eT
      refine ⟨ty_rep R1.hr.same (R1.look rx e0) eT hT, W1, s1, o.le st.le, R1, Po.bind q1 fun ds vs s2 W2 H2 st2 ln2 R2 rs q2 => ?_⟩
      split at q2
      · rename_i d e1
        split at q2
        · rename_i a ea
          split at q2
          · rename_i s3 e3
            obtain ⟨p, u, rfl, hF, hH, ro, l3, fin⟩ := R2.put1 (RepA.mono st2.le rx) e1 e3
            refine hp W2 H2 d ds p u vs Q a.1 a.2 ((o.le st.le).le st2.le).K R2.hr.same hH ro rs ea fun o' v' r1 r2 => ?_
            obtain ⟨R3, st3⟩ := fin o' r1
            exact q2 v' W2 _ st3 l3 R3 r2
          · exact False.elim q2
        · exact False.elim q2
      · exact False.elim q2
    · exact False.elim q1
  · exact False.elim q1
section
variable {X : Cx} {o e : Expr} {es : List Expr} {name : Str} {apos cpos : Pos} {T id : String} {r : V → List V → Hp → VK → Prop} {g : D → List D → Option (D × D)} {fo : S → Ou Ar} {fs : S → Ou (List D)}
theorem PD.mut (pa : PlainAttrs T) (slot : Slot T name id) (hty : typeOf (.builtin id) = pure (.type "method_descriptor")) (hm : MtR X id r) (hT : T ≠ "") (hp : PrimM X.K r g) (ho : PD kA X o fo) (ha : PAD kFs X (e :: es) fs)
    (hbase : attributeBase o name X.env (eval o X.env) = eval o X.env)
    (hfew : ((backTo cpos (starEach (e :: es) X.env)).all (fun x => !x.1) && (backToKw cpos (keywordEach [] X.env)).all (fun x => x.1.isSome) && decide ((e :: es).length + ([] : List Keyword).length + (if ([] : List Keyword).isEmpty then 0 else 1) < 30)) = true)
    (hline : (apos.endLine == cpos.line) = true) (hs : starEach (e :: es) X.env = (false, eval e X.env) :: starEach es X.env) (hplain : (backTo cpos (starEach es X.env)).any (·.1) = false) : PD kF X (.Call (.Attribute o name apos) (e :: es) [] cpos) (eMut T g fo fs) := fun Wx tk =>
  PE.imp (pe_bm pa slot hty hm (ho Wx tk) (ha Wx tk) hbase hfew hline hs hplain) fun t H Q h => tD_mut hT hp h
end
def appendG (d : D) (ds : List D) : Option (D × D) := match d, ds with
  | .nd .lst xs, [x] => if xs.length < sizeLine then some (.nd .lst (xs ++ [x]), .non) else none
  | _, _ => none
theorem Reps.one' {W : Wd} {d : D} {vs : List V} (h : Reps W [d] vs) : ∃ v, vs = [v] ∧ Rep W d v := by
  obtain ⟨v, r, e, h1, h2⟩ := h
  cases (show r = [] from h2)
  exact ⟨v, e, h1⟩
theorem pr_append {K : PySem.W.Frag} : PrimM K rAppend appendG := fun W H d ds a o vs Q d' res hK sm hH ro rs e af => by
  unfold appendG at e
  split at e
  · split at e
    · rename_i hz
      cases e
      obtain ⟨xs, rfl, rx⟩ := ro
      obtain ⟨v, rfl, rv⟩ := rs.one'
      exact ⟨a, xs, v, rfl, rfl, hH, by rw [rx.length]; exact hz, af _ _ ⟨_, rfl, rx.append (show Reps W [_] [v] from ⟨v, [], rfl, rv, rfl⟩)⟩ rfl⟩
    · cases e
  · cases e
def popAtGq (d : D) (ds : List D) : Option (D × D) := match d, ds with
  | .nd .lst xs, [.int i] => if 0 ≤ i ∧ i < 2 ^ 62 then (match xs[i.toNat]? with
    | some x => some (.nd .lst (xs.eraseIdx i.toNat), x)
    | none => none) else none
  | _, _ => none
theorem Reps.erase {W : Wd} : ∀ {ds : List D} {vs : List V} (n : Nat), Reps W ds vs → Reps W (ds.eraseIdx n) (vs.eraseIdx n)
  | [], vs, n, r => by cases (show vs = [] from r); exact rfl
  | d :: ds, _, 0, ⟨v, r, e, h, t⟩ => by subst e; exact t
  | d :: ds, _, n + 1, ⟨v, r, e, h, t⟩ => by subst e; exact ⟨v, _, rfl, h, Reps.erase n t⟩
noncomputable def popAtG : D → List D → Option (D × D) := hide popAtGq
theorem popAtG_eq : popAtG = popAtGq := hide_eq _
theorem pr_popAt {K : PySem.W.Frag} : PrimM K rPopAt popAtG := fun W H d ds a o vs Q d' res hK sm hH ro rs e af => by
  rw [popAtG_eq] at e
  unfold popAtGq at e
  split at e
  · rename_i xs i
    split at e
    · rename_i hi
      split at e
      · rename_i x ex
        cases e
        obtain ⟨us, rfl, rx⟩ := ro
        obtain ⟨v, rfl, rv⟩ := rs.one'
        cases (show v = .int i from rv)
        obtain ⟨u, hu, ru⟩ := rx.get ex
        have hl := (List.getElem?_eq_some_iff.mp ex).1
        refine ⟨a, us, i, i.toNat, u, rfl, rfl, hH, by omega, by omega, ?_, hu, af _ _ ⟨_, rfl, rx.erase _⟩ ru⟩
        have z : ixN us.length i = some i.toNat := by
          unfold ixN
          rw [if_pos hi.1, if_pos (by rw [rx.length]; omega)]
        exact (ixN_seq z).1
      · cases e
    · cases e
  · cases e
end TD

end
section
set_option maxRecDepth 100000
set_option maxHeartbeats 4000000
/-! TdN: defs, calls, exceptions. -/
namespace TD
open PySem L2 PyProof.Rows

/-! ### what a def promises -/
/-- as L2.FnOk, where no repr runs around, errors lie as L2.CX says -/
structure FnG (P : Program) (w : World) (K : PySem.W.Frag) (mg : Str → Option Value) (base : Heap) (k : Nat) (f : Addr) (fd : FuncData) (ps : List Str) (sp : Sp) : Prop where
  len : ∀ vs H Q E, sp vs H Q E → vs.length = ps.length
  run : ∀ (A : Around) (outer : List Env) (s : Shared) (H : Hp) (args : Args) (us : List Value) (vs : List V) (Q : VK) (E : XK), A.guards = some [] → Room k A → Env0 P w K mg base A outer s H → BindsTo s fd args (ps.zip us) →
    Vals vs us → sp vs H Q E → codeAny (model P w) A (.call (.ref f) args) (CR (L2.CX P w) outer P w H s Q E) s
theorem FnG.mono {P : Program} {w : World} {K : PySem.W.Frag} {mg : Str → Option Value} {base : Heap} {j k : Nat} {f : Addr} {fd : FuncData} {ps : List Str} {sp : Sp} (F : FnG P w K mg base j f fd ps sp) (h : j ≤ k) : FnG P w K mg base k f fd ps sp :=
  ⟨F.len, fun A outer s H args us vs Q E hg hr => F.run A outer s H args us vs Q E hg (hr.mono h)⟩

/-- THE RULE for a def's body -/
theorem fng_of {P : Program} {w : World} {K : PySem.W.Frag} {mg : Str → Option Value} {base : Heap} {k : Nat} {f : Addr} {name qual : Str} {params : Arguments} {body : List Stmt} {scope : Scope} {dV kV doc pm cdv ct oc : Value} {an od : Option Addr}
    {osl : Array (Option Value)} {N ps : List Str} {sp : Sp} (lk : K.lookup f = some ⟨oc, od, .func (PySem.W.fnOf name qual params body scope dV kV doc pm an cdv ct), osl⟩) (hcd : PySem.W.codeIn K cdv qual = true) (S : FnScope N ps scope)
    (len : ∀ vs H Q E, sp vs H Q E → vs.length = ps.length)
    (hb : ∀ (A : Around) (outer : List Env) (s : Shared) (H : Hp) (vs : List V) (Q : VK) (E : XK), A.guards = some [] → Room k (A.deeper (envOfC qual scope s.heap.objs.size f cdv)) → sp vs H Q E →
      ∃ t, PSs (cxOf (L2.CX P w) P w K mg base N qual scope f cdv A outer s H E) body t ∧ t { nx := fun _ H' => Q .non H', rt := Q } (L2.start N vs) H) :
    FnG P w K mg base (k + 1) f (PySem.W.fnOf name qual params body scope dV kV doc pm an cdv ct) ps sp := by
  constructor
  · exact len
  intro A outer s H args us vs Q E hgd hr e0 hbd r hsp
  have stays : ∀ b o, base.get? b = some o → s.heap.get? b = some o := fun b o q => (e0.bs b o q).1
  have KX : K.In s.heap := e0.mod.kin.keeps stays
  have kinds : ∀ y ∈ ps.zip us, scope.names.lookup y.1 = some .local ∨ (scope.names.lookup y.1 = some .cell ∧ ((cellsFrom (s.heap.objs.size + 1) scope.names []).lookup y.1).isSome = true) := by
    intro y hy
    have hy1 : y.1 ∈ ps := (List.of_mem_zip (show (y.1, y.2) ∈ ps.zip us from hy)).1
    exact (S.par y.1 hy1).imp id fun q => ⟨q, PySem.W.cellsFrom_some _ _ _ (.inl q)⟩
  refine codeAny_call_function hr.depth (KX _ _ lk) rfl S.co S.gen rfl (PySem.W.codeRec_of KX hcd) (hbd _ _ _ _ ?_)
  refine wpAny_newFunctionEnv_cells S.kind kinds fun env he s1 x => ?_
  cases he
  refine ⟨(e0.mod.nolimit.keeps stays).keeps x.toInCall.keep, codeAny_func ?_⟩
  obtain ⟨t, ht, hq⟩ := hb A outer s H vs Q E hgd (hr.deeper _) hsp
  have I0 := inv_start (CX := L2.CX P w) (E := E) S hr.hd e0 (len _ _ _ _ hsp) r x
  refine wpAny_mono (ht.run [] s1 (L2.start N vs) H _ I0 hq) ?_ fun e s' hs => hs
  intro fl s' hs
  cases fl with
  | next =>
    obtain ⟨t1, H1, J, q⟩ := hs
    exact ⟨.non, H1, J.os, J.bare, J.base, J.hok, rfl, q⟩
  | ret u =>
    obtain ⟨v, t1, H1, J, rv, q⟩ := hs
    exact ⟨v, H1, J.os, J.bare, J.base, J.hok, rv, q⟩
  | brk =>
    obtain ⟨_, _, _, q⟩ := hs
    cases q
  | cont =>
    obtain ⟨_, _, _, q⟩ := hs
    cases q

theorem kV_ofF {W : Wd} {s : S} {t : L2.St} {N0 : Addr → Prop} {H : Hp} {d : D} {v : V} (h : kV.rp W s t N0 H (d, false) v) : Rep W d v := RepV.ofF (O := Ow s t) (N0 := N0) (H := H) h
theorem kV_ofT {W : Wd} {s : S} {t : L2.St} {N0 : Addr → Prop} {H : Hp} {d : D} {v : V} (h : kV.rp W s t N0 H (d, true) v) : ∃ a o, v = .ref a ∧ N0 a ∧ W.F a = none ∧ a ∉ W.io ∧ ¬ Ow s t a ∧ H a = some o ∧ ORep W d o := RepV.ofT (O := Ow s t) (N0 := N0) (H := H) h
abbrev noO : Addr → Prop := fun _ => False
/-- what is to be shown behind a call -/
def PoF (W : Wd) (h : List D) (H : Hp) (Q : VK) (E : XK) : OutF → Prop
  | .ok d fr h' => ∀ v W' H', Step W noO H W' noO H' → HRel W' h' H' → RepV W' noO (fun a => H a = none) H' d fr v → Q v H'
  | .ex e h' => ∀ c dd W' H', Step W noO H W' noO H' → HRel W' h' H' → RepX W' e c dd → E c dd H'
  | .bad => False
/-- the promise of a mirror -/
def spD (K : PySem.W.Frag) (mg : Str → Option Value) (n : Nat) (F : List D → List D → OutF) : Sp := fun vs H Q E => ∃ W ds h, vs.length = n ∧ W.of K mg ∧ HRel W h H ∧ Reps W ds vs ∧ PoF W h H Q E (F ds h)
/-- a body as a def: N names, the parameters first -/
def bodyF (N : Nat) (f : S → OutS) : List D → List D → OutF := fun ds h => match f ⟨ds.map .fz ++ List.replicate (N - ds.length) .un, h⟩ with
  | .nx s => .ok .non false s.h
  | .rt d fr s => .ok d fr s.h
  | .ex e s => .ex e s.h
  | _ => .bad
theorem start_slot {ds : List D} {n i : Nat} {x : Sl} (h : (ds.map Sl.fz ++ List.replicate n Sl.un)[i]? = some x) : (∃ d, x = .fz d ∧ ds[i]? = some d) ∨ x = .un := by
  by_cases hi : i < ds.length
  · rw [List.getElem?_append_left (by rw [List.length_map]; exact hi), List.getElem?_map] at h
    cases e : ds[i]? with
    | none => rw [e] at h; cases h
    | some d => rw [e] at h; cases h; exact .inl ⟨d, rfl, rfl⟩
  · rw [List.getElem?_append_right (by rw [List.length_map]; omega), List.getElem?_replicate] at h
    split at h
    · cases h
      exact .inr rfl
    · cases h
theorem rel_start {W : Wd} {h : List D} {H : Hp} {ds : List D} {vs : List V} {N : List Str} (hr : HRel W h H) (r : Reps W ds vs) : Rel W ⟨ds.map .fz ++ List.replicate (N.length - ds.length) .un, h⟩ (L2.start N vs) H where
  hr := hr
  len := by
    unfold L2.start
    rw [List.length_append, List.length_append, List.length_map, List.length_map, List.length_replicate, List.length_replicate, r.length]
  fz := fun i d q => by
    rcases start_slot q with ⟨e, h1, h2⟩ | h1
    · cases h1
      obtain ⟨v, hv, rv⟩ := r.get h2
      refine ⟨v, ?_, rv⟩
      unfold L2.start
      rw [List.getElem?_append_left (by rw [List.length_map, r.length]; exact (List.getElem?_eq_some_iff.mp h2).1), List.getElem?_map, hv]
      rfl
    · cases h1
  own := fun i lk d q => by
    rcases start_slot q with ⟨e, h1, _⟩ | h1 <;> cases h1
  one := fun i j a ⟨⟨lk, d, q⟩, _⟩ _ => by
    rcases start_slot q with ⟨e, h1, _⟩ | h1 <;> cases h1
theorem ow_start {h : List D} {ds : List D} {t : L2.St} {n : Nat} {a : Addr} : ¬ Ow ⟨ds.map .fz ++ List.replicate n .un, h⟩ t a := fun ⟨i, ⟨lk, d, q⟩, _⟩ => by
  rcases start_slot q with ⟨e, h1, _⟩ | h1 <;> cases h1
theorem lent_start {h : List D} {ds : List D} {t t' : L2.St} {s' : S} {n : Nat} : Lent ⟨ds.map .fz ++ List.replicate n .un, h⟩ s' t t' := fun i d q => by
  rcases start_slot q with ⟨e, h1, _⟩ | h1 <;> cases h1
/-- the law of a body, out of its mirror -/
theorem PoF.body {W : Wd} {h : List D} {H : Hp} {Q : VK} {E : XK} {N : Nat} {f : S → OutS} {ds : List D} {t : L2.St} (q : PoF W h H Q E (bodyF N f ds h)) :
    PoS W ⟨ds.map .fz ++ List.replicate (N - ds.length) .un, h⟩ t H (fun c dd _ H' => E c dd H') { nx := fun _ H' => Q .non H', rt := Q } (f ⟨ds.map .fz ++ List.replicate (N - ds.length) .un, h⟩) := by
  have st' : ∀ {W' : Wd} {H' : Hp} {O' : Addr → Prop}, Step W (Ow ⟨ds.map .fz ++ List.replicate (N - ds.length) .un, h⟩ t) H W' O' H' → Step W noO H W' noO H' := fun st => st.own (fun a z => (ow_start z).elim) fun a z => z.elim
  unfold bodyF at q
  cases e : f ⟨ds.map .fz ++ List.replicate (N - ds.length) .un, h⟩ with
  | nx s' => rw [e] at q; exact fun W' t' H' st _ R => q .non W' H' (st' st) R.hr (.mkF rfl)
  | rt d fr s' =>
    rw [e] at q
    intro v W' t' H' st _ R rv
    refine q v W' H' (st' st) R.hr ?_
    cases fr with
    | false => exact .mkF (kV_ofF rv)
    | true =>
      obtain ⟨a, o, h1, h2, h3, h4, h5, h6, h7⟩ := kV_ofT rv
      exact .mkT ⟨a, o, h1, h2.elim id fun z => (ow_start z).elim, h3, h4, id, h6, h7⟩
  | bk s' => rw [e] at q; exact False.elim q
  | ct s' => rw [e] at q; exact False.elim q
  | ex x s' => rw [e] at q; exact fun c dd W' t' H' st _ R rx => q c dd W' H' (st' st) R.hr rx
  | bad => rw [e] at q; exact False.elim q
/-- a def of the text by its body's mirror -/
theorem fng_body {P : Program} {w : World} {K : PySem.W.Frag} {mg : Str → Option Value} {base : Heap} {k : Nat} {f : Addr} {name qual : Str} {params : Arguments} {body : List Stmt} {scope : Scope} {dV kV doc pm cdv ct oc : Value} {an od : Option Addr}
    {osl : Array (Option Value)} {N ps : List Str} {fb : S → OutS} (lk : K.lookup f = some ⟨oc, od, .func (PySem.W.fnOf name qual params body scope dV kV doc pm an cdv ct), osl⟩) (hcd : PySem.W.codeIn K cdv qual = true) (S : FnScope N ps scope)
    (hb : ∀ (A : Around) (outer : List Env) (s : Shared) (H : Hp) (E : XK), A.guards = some [] → Room k (A.deeper (envOfC qual scope s.heap.objs.size f cdv)) → PSsD (cxOf (L2.CX P w) P w K mg base N qual scope f cdv A outer s H E) body fb) :
    FnG P w K mg base (k + 1) f (PySem.W.fnOf name qual params body scope dV kV doc pm an cdv ct) ps (spD K mg ps.length (bodyF N.length fb)) :=
  fng_of lk hcd S (fun vs H Q E h => h.choose_spec.choose_spec.choose_spec.1) fun A outer s H vs Q E hgd hr ⟨W, ds, h, hl, o, hrel, r, q⟩ =>
    ⟨_, hb A outer s H E hgd hr _ (takes_of rfl rfl rfl rfl), W, _, o, rel_start hrel r, PoF.body q⟩

/-! ### calls -/
/-- behind a call: the caller's names stand -/
theorem Rel.call {W W' : Wd} {s : S} {t : L2.St} {H H' : Hp} {h' : List D} (R : Rel W s t H) (st : Step W noO H W' noO H') (hr : HRel W' h' H') : Rel W' { s with h := h' } t H' ∧ Step W (Ow s t) H W' (Ow { s with h := h' } t) H' ∧ Lent s { s with h := h' } t t := by
  refine ⟨⟨hr, R.len, fun i d q => let ⟨v, h1, h2⟩ := R.fz i d q; ⟨v, h1, h2.mono st.le⟩, fun i lk d q => ?_, R.one⟩, st.own (fun _ z => z.elim) fun a z => .inl z, fun i d q => ⟨q, rfl⟩⟩
  obtain ⟨a, o, h1, hF, hi, hH, ro⟩ := R.own i lk d q
  refine ⟨a, o, h1, ?_, fun z => ?_, st.keep a o hH hi id, ro.mono st.le⟩
  · cases e : W'.F a with
    | none => rfl
    | some u =>
      rcases st.newF a (by rw [e]; exact fun z => nomatch z) with z | z | z
      · exact absurd hF z
      · rw [hH] at z; cases z
      · exact z.elim
  · rcases st.newI a z with z | z | z
    · exact hi z
    · rw [hH] at z; cases z
    · exact z
def apF (F : List D → List D → OutF) (ds : List D) (s : S) : Ou (D × Bool) := match F ds s.h with
  | .ok d fr h' => .ok (d, fr) { s with h := h' }
  | .ex e h' => .ex e { s with h := h' }
  | .bad => .bad
theorem Po.call {W : Wd} {s : S} {t : L2.St} {H : Hp} {Wx : WX} {Q : VK} {F : List D → List D → OutF} {ds : List D} (R : Rel W s t H) (q : Po kV W s t H Wx Q (apF F ds s)) : PoF W s.h H Q (fun c dd H' => Wx c dd t H') (F ds s.h) := by
  unfold apF at q
  cases e : F ds s.h with
  | ok d fr h' =>
    rw [e] at q
    intro v W' H' st hr rv
    obtain ⟨R1, st1, ln⟩ := R.call st hr
    refine q v W' H' st1 ln R1 ?_
    cases fr with
    | false => exact kV_F rv.ofF
    | true =>
      obtain ⟨a, o, h1, h2, h3, h4, _, h6, h7⟩ := rv.ofT
      exact kV_T ⟨a, o, h1, .inl h2, h3, h4, (show ¬ Ow { s with h := h' } t a from (R.newNot h2).2.2), h6, h7⟩
  | ex x h' =>
    rw [e] at q
    intro c dd W' H' st hr rx
    obtain ⟨R1, st1, ln⟩ := R.call st hr
    exact q c dd W' H' st1 ln R1 rx
  | bad => rw [e] at q; exact q
section
variable {X : Cx} {k : Nat} {f : Addr} {fd : FuncData} {ps : List Str} {F : List D → List D → OutF} {x : Str} {p pos : Pos} {e : Expr} {es : List Expr}
/-- the callee runs -/
theorem run_fng {pins : List (Addr × Obj)} {σ : L2.St} {H : Hp} {s : Shared} {Q : VK} {Wx : WX} {args : List Value} {kw : List (Str × Value)} {us : List Value} {vs : List V} {sp : Sp} (G : FnG X.prog X.w X.K X.mg X.base k f fd ps sp) (hgd : X.A.guards = some []) (hr : Room k X.A)
    (tk : Takes X Wx) (I : Inv X pins σ H s) (hb : BindsTo s fd ⟨args, kw⟩ (ps.zip us)) (r : Vals vs us) (h : sp vs H Q (fun c dd H' => Wx c dd σ H')) : wpAny (model X.prog X.w) X.A (call (.ref f) args kw) (EP X pins σ Q) X.xe s := by
  refine wpAny_call (codeAny_mono (G.run X.A X.stack s H ⟨args, kw⟩ us vs Q _ hgd hr I.env0 hb r h) ?_)
  intro res s' hq
  cases res with
  | error er => exact tk er s' (XE.of_call I (fun _ _ _ z => z) hq)
  | ok fl =>
    cases fl with
    | ret u => exact I.after hq
    | next => cases hq
    | brk => cases hq
    | cont => cases hq
def eCall (F : List D → List D → OutF) (fs : S → Ou (List D)) : S → Ou (D × Bool) := fun s => (fs s).bind fun ds s1 => apF F ds s1
/-- f(a, ..): all parameters written; g: how they and the defaults come to the parameters -/
structure BdP (K : PySem.W.Frag) (fd : FuncData) (ps : List Str) (n : Nat) (g : List D → List D) : Prop where
  to : ∃ (gu : List Value → List Value) (gv : List V → List V), (∀ (s : Shared) (us : List Value), K.In s.heap → us.length = n → BindsTo s fd ⟨us, []⟩ (ps.zip (gu us))) ∧ (∀ vs us, Vals vs us → Vals (gv vs) (gu us)) ∧
    ∀ (W : Wd) (ds : List D) (vs : List V), Reps W ds vs → Reps W (g ds) (gv vs)
theorem PD.call {n : Nat} {g : List D → List D} {fs : S → Ou (List D)} (G : FnG X.prog X.w X.K X.mg X.base k f fd ps (spD X.K X.mg ps.length F)) (hgd : X.A.guards = some []) (hr : Room k X.A) (hg : Gl X x) (hm : X.mg x = some (.ref f)) (hk : PySem.W.keepIn X.K (.ref f) = true)
    (B : BdP X.K fd ps n g) (hn : (e :: es).length = n) (hps : ∀ ds : List D, ds.length = n → (g ds).length = ps.length) (ha : PAD kFs X (e :: es) fs) (hfl : ∀ s ds s', fs s = .ok ds s' → ds.length = n)
    (hdb : (x == ("__debug__" : Str)) = false) (he : starEach (e :: es) X.env = (false, eval e X.env) :: starEach es X.env) (hpl : (backTo pos (starEach es X.env)).any (·.1) = false) :
    PD kV X (.Call (.Name x p) (e :: es) [] pos) (eCall (fun ds h => F (g ds) h) fs) := fun Wx tk => by
  obtain ⟨gu, gv, b1, b2, b3⟩ := B.to
  refine ⟨fun pins s σ H Q I ⟨W, st, o, R, q⟩ => ?_⟩
  refine wpAny_Call_Name_kw (ld_glob I hg hm ?_ hdb)
  have q' : Po kFs W st σ H Wx (fun vs H1 => ∃ W1 s1 ds, W1.of X.K X.mg ∧ Rel W1 s1 σ H1 ∧ Reps W1 ds vs ∧ ds.length = n ∧ Po kV W1 s1 σ H1 Wx Q (apF (fun ds h => F (g ds) h) ds s1)) (fs st) := by
    cases ef : fs st with
    | ok ds s1 =>
      have hl := hfl _ _ _ ef
      unfold eCall at q
      rw [ef] at q
      exact fun vs W1 H1 st1 ln R1 rs => ⟨W1, s1, ds, o.le st1.le, R1, rs, hl, Po.from (out := apF (fun ds h => F (g ds) h) ds s1) st1 ln q⟩
    | ex y s1 => unfold eCall at q; rw [ef] at q; exact q
    | bad => unfold eCall at q; rw [ef] at q; exact q
  refine PySem.W.callWith_K (h₀ := X.base) I.ok.mod.kin hk (thn ((ha Wx tk).run pos pins s σ H _ I ⟨W, st, o, R, q'⟩) ?_) he hpl
  intro us s1 hh
  obtain ⟨vs, H1, I1, r, W1, m1, ds, o1, R1, rs, hl, q1⟩ := hh
  have hul : us.length = n := r.length.symm.trans (rs.length.trans hl)
  refine ⟨I1.kIn, run_fng G hgd hr tk I1 (b1 s1 us I1.kIn hul) (b2 vs us r) ?_⟩
  exact ⟨W1, g ds, m1.h, by rw [(b3 W1 ds vs rs).length]; exact hps ds hl, o1, R1.hr, b3 W1 ds vs rs, Po.call (F := fun ds h => F (g ds) h) R1 q1⟩
end
end TD

end
section
set_option maxRecDepth 100000
set_option maxHeartbeats 4000000
/-! TdO: arguments by number, calls with keywords, raise, isinstance, stores by subscript. -/
namespace TD
open PySem L2 PyProof.Rows

/-- so many frozen arguments -/
structure PAF (n : Nat) (X : Cx) (es : List Expr) (f : S → Ou (List D)) : Prop where
  pa : PAD kFs X es f
  len : ∀ s ds s', f s = .ok ds s' → ds.length = n
theorem fCons_len {n : Nat} {fa : S → Ou D} {fr : S → Ou (List D)} (h : ∀ s ds s', fr s = .ok ds s' → ds.length = n) : ∀ s ds s', fCons fa fr s = .ok ds s' → ds.length = n + 1 := fun s ds s' e => by
  unfold fCons at e
  cases ea : fa s with
  | ok d s1 =>
    rw [ea] at e
    cases er : fr s1 with
    | ok ds1 s2 =>
      rw [Ou.bind_ok, er] at e
      cases e
      rw [List.length_cons, h _ _ _ er]
    | ex x s2 => rw [Ou.bind_ok, er] at e; cases e
    | bad => rw [Ou.bind_ok, er] at e; cases e
  | ex x s1 => rw [ea] at e; cases e
  | bad => rw [ea] at e; cases e
def fNil : S → Ou (List D) := fun s => .ok [] s
section
variable {X : Cx} {e : Expr} {es : List Expr} {kws : List Keyword} {kpos pos p : Pos} {nm : Option Str} {x : Str}
theorem PAF.nil : PAF 0 X [] fNil := ⟨PAD.fnil, fun s ds s' e => by cases e; rfl⟩
theorem PAF.cons {n : Nat} {fa : S → Ou D} {fr : S → Ou (List D)} (ha : PD kF X e fa) (hr : PAF n X es fr) (hs : starEach (e :: es) X.env = (false, eval e X.env) :: starEach es X.env) : PAF (n + 1) X (e :: es) (fCons fa fr) := ⟨PAD.fcons ha hr.pa hs, fCons_len hr.len⟩
/-- keywords -/
def PKD (X : Cx) (kws : List Keyword) (f : S → Ou (List D)) : Prop := ∀ Wx, Takes X Wx → PK X kws (tD kFs X.K X.mg Wx f)
structure PKF (n : Nat) (X : Cx) (kws : List Keyword) (f : S → Ou (List D)) : Prop where
  pk : PKD X kws f
  len : ∀ s ds s', f s = .ok ds s' → ds.length = n
theorem PK.imp {t t' : TA} (h : PK X kws t) (i : ∀ s H Q, t' s H Q → t s H Q) : PK X kws t' := ⟨fun pos pins s σ H Q I q => h.run pos pins s σ H Q I (i _ _ _ q)⟩
theorem PKF.nil : PKF 0 X [] fNil := ⟨fun Wx tk => PK.imp pk_nil fun t H Q ⟨W, s, o, R, q⟩ => Po.pure q R rfl, fun s ds s' e => by cases e; rfl⟩
theorem PKF.cons {n : Nat} {fa : S → Ou D} {fr : S → Ou (List D)} (ha : PD kF X e fa) (hr : PKF n X kws fr) : PKF (n + 1) X (⟨nm, e, kpos⟩ :: kws) (fCons fa fr) :=
  ⟨fun Wx tk => PK.imp (pk_cons (ha Wx tk) (hr.pk Wx tk)) fun t H Q ⟨W, s, o, R, q⟩ => ⟨W, s, o, R, Po.bind q fun x v s1 W1 H1 st ln R1 rx q1 => ⟨W1, s1, o.le st.le, R1, Po.bind q1 fun xs vs s2 W2 H2 st2 ln2 R2 rxs q2 =>
    q2 (v :: vs) W2 H2 .refl .refl R2 ⟨v, vs, rfl, Rep.mono st2.le rx, rxs⟩⟩⟩, fCons_len hr.len⟩
/-- the state at the end of arguments, their number told -/
theorem Po.lens {k : Rk (D × Bool) V} {W : Wd} {s : S} {t : L2.St} {H : Hp} {Wx : WX} {Q : VK} {n : Nat} {o : Ou (List D)} {F : List D → S → Ou (D × Bool)} (h : Po k W s t H Wx Q (o.bind F)) (hl : ∀ ds s', o = .ok ds s' → ds.length = n) :
    Po kFs W s t H Wx (fun vs H1 => ∃ W1 s1 ds, W.le W1 ∧ Rel W1 s1 t H1 ∧ Reps W1 ds vs ∧ ds.length = n ∧ Po k W1 s1 t H1 Wx Q (F ds s1)) o := by
  cases o with
  | ok ds s1 => exact fun vs W1 H1 st1 ln R1 rs => ⟨W1, s1, ds, st1.le, R1, rs, hl ds s1 rfl, Po.from (out := F ds s1) st1 ln h⟩
  | ex y s1 => exact h
  | bad => exact h
variable {k : Nat} {f : Addr} {fd : FuncData} {ps : List Str} {F : List D → List D → OutF}
/-- f(a, ..) -/
theorem PD.callP {n : Nat} {g : List D → List D} {fs : S → Ou (List D)} (G : FnG X.prog X.w X.K X.mg X.base k f fd ps (spD X.K X.mg ps.length F)) (hgd : X.A.guards = some []) (hr : Room k X.A) (hg : Gl X x) (hm : X.mg x = some (.ref f)) (hk : PySem.W.keepIn X.K (.ref f) = true)
    (B : BdP X.K fd ps n g) (hps : ∀ ds : List D, ds.length = n → (g ds).length = ps.length) (ha : PAF n X (e :: es) fs)
    (hdb : (x == ("__debug__" : Str)) = false) (he : starEach (e :: es) X.env = (false, eval e X.env) :: starEach es X.env) (hpl : (backTo pos (starEach es X.env)).any (·.1) = false) :
    PD kV X (.Call (.Name x p) (e :: es) [] pos) (eCall (fun ds h => F (g ds) h) fs) := fun Wx tk => by
  obtain ⟨gu, gv, b1, b2, b3⟩ := B.to
  refine ⟨fun pins s σ H Q I ⟨W, st, o, R, q⟩ => ?_⟩
  refine wpAny_Call_Name_kw (ld_glob I hg hm ?_ hdb)
  refine PySem.W.callWith_K (h₀ := X.base) I.ok.mod.kin hk (thn ((ha.pa Wx tk).run pos pins s σ H _ I ⟨W, st, o, R, Po.lens q (ha.len st)⟩) ?_) he hpl
  intro us s1 hh
  obtain ⟨vs, H1, I1, r, W1, m1, ds, l1, R1, rs, hl, q1⟩ := hh
  have hul : us.length = n := r.length.symm.trans (rs.length.trans hl)
  refine ⟨I1.kIn, run_fng G hgd hr tk I1 (b1 s1 us I1.kIn hul) (b2 vs us r) ?_⟩
  exact ⟨W1, g ds, m1.h, by rw [(b3 W1 ds vs rs).length]; exact hps ds hl, o.le l1, R1.hr, b3 W1 ds vs rs, Po.call (F := fun ds h => F (g ds) h) R1 q1⟩
/-- f() -/
theorem PD.call0 {g : List D → List D} (G : FnG X.prog X.w X.K X.mg X.base k f fd ps (spD X.K X.mg ps.length F)) (hgd : X.A.guards = some []) (hr : Room k X.A) (hg : Gl X x) (hm : X.mg x = some (.ref f)) (hk : PySem.W.keepIn X.K (.ref f) = true)
    (B : BdP X.K fd ps 0 g) (hps : (g []).length = ps.length) (hdb : (x == ("__debug__" : Str)) = false) : PD kV X (.Call (.Name x p) [] [] pos) (eCall (fun ds h => F (g ds) h) fNil) := fun Wx tk => by
  obtain ⟨gu, gv, b1, b2, b3⟩ := B.to
  refine ⟨fun pins s σ H Q I ⟨W, st, o, R, q⟩ => ?_⟩
  refine wpAny_Call_Name_kw (ld_glob I hg hm ?_ hdb)
  have r0 : Reps W [] [] := rfl
  exact PySem.W.callWith_K0 I.kIn hk (run_fng G hgd hr tk I (b1 s [] I.kIn rfl) (b2 [] [] .nil) ⟨W, g [], st.h, by rw [(b3 W [] [] r0).length]; exact hps, o, R.hr, b3 W [] [] r0, Po.call (F := fun ds h => F (g ds) h) R q⟩)
/-- f(a, .., k = v, ..): how the values come to the parameters -/
structure BdK (K : PySem.W.Frag) (fd : FuncData) (ps : List Str) (n : Nat) (ks : List Str) (g : List D → List D → List D) : Prop where
  to : ∃ (gu : List Value → List Value → List Value) (gv : List V → List V → List V), (∀ (s : Shared) (us ws : List Value), K.In s.heap → us.length = n → ws.length = ks.length → BindsTo s fd ⟨us, ks.zip ws⟩ (ps.zip (gu us ws))) ∧
    (∀ vs us zs ws, Vals vs us → Vals zs ws → Vals (gv vs zs) (gu us ws)) ∧ ∀ (W : Wd) (ds es : List D) (vs zs : List V), Reps W ds vs → Reps W es zs → Reps W (g ds es) (gv vs zs)
def eCallK (F : List D → List D → List D → OutF) (fs fk : S → Ou (List D)) : S → Ou (D × Bool) := fun s => (fs s).bind fun ds s1 => (fk s1).bind fun es s2 => apF (F ds) es s2
theorem PD.callK {n : Nat} {ks : List Str} {g : List D → List D → List D} {fs fk : S → Ou (List D)} (G : FnG X.prog X.w X.K X.mg X.base k f fd ps (spD X.K X.mg ps.length F)) (hgd : X.A.guards = some []) (hr : Room k X.A) (hg : Gl X x) (hm : X.mg x = some (.ref f)) (hk : PySem.W.keepIn X.K (.ref f) = true)
    (B : BdK X.K fd ps n ks g) (hps : ∀ ds es : List D, ds.length = n → es.length = ks.length → (g ds es).length = ps.length) (ha : PAF n X (e :: es) fs) (hkw : PKF ks.length X kws fk)
    (hall : (backToKw pos (keywordEach kws X.env)).all (·.1.isSome) = true) (hks : (backToKw pos (keywordEach kws X.env)).filterMap (·.1) = ks) (hdb : (x == ("__debug__" : Str)) = false) (he : starEach (e :: es) X.env = (false, eval e X.env) :: starEach es X.env)
    (hpl : ((backTo pos (starEach (e :: es) X.env)).any (·.1) || (backToKw pos (keywordEach kws X.env)).any (·.1.isNone)) = false) :
    PD kV X (.Call (.Name x p) (e :: es) kws pos) (eCallK (fun ds es h => F (g ds es) h) fs fk) := fun Wx tk => by
  obtain ⟨gu, gv, b1, b2, b3⟩ := B.to
  refine ⟨fun pins s σ H Q I ⟨W, st, o, R, q⟩ => ?_⟩
  refine wpAny_Call_Name_kw (ld_glob I hg hm ?_ hdb)
  refine PySem.W.callWith_KW (h₀ := X.base) I.ok.mod.kin hk hall (thn ((ha.pa Wx tk).run pos pins s σ H _ I ⟨W, st, o, R, Po.lens q (ha.len st)⟩) ?_) hpl he
  intro us s1 hh
  obtain ⟨vs, H1, I1, r, W1, m1, ds, l1, R1, rs, hl, q1⟩ := hh
  have hul : us.length = n := r.length.symm.trans (rs.length.trans hl)
  refine thn ((hkw.pk Wx tk).run pos pins s1 σ H1 _ I1 ⟨W1, m1, o.le l1, R1, Po.lens q1 (hkw.len m1)⟩) ?_
  intro ws s2 hh
  obtain ⟨zs, H2, I2, rz, W2, m2, es2, l2, R2, rs2, hl2, q2⟩ := hh
  have hwl : ws.length = ks.length := rz.length.symm.trans (rs2.length.trans hl2)
  have rsm := rs.mono l2
  refine ⟨I2.kIn, ?_⟩
  rw [hks]
  refine run_fng G hgd hr tk I2 (b1 s2 us ws I2.kIn hul hwl) (b2 vs us zs ws r rz) ?_
  exact ⟨W2, g ds es2, m2.h, by rw [(b3 W2 ds es2 vs zs rsm rs2).length]; exact hps ds es2 hl hl2, (o.le l1).le l2, R2.hr, b3 W2 ds es2 vs zs rsm rs2, Po.call (F := fun es h => F (g ds es) h) R2 q2⟩
/-- f(k = v, ..) -/
theorem PD.callK0 {ks : List Str} {g : List D → List D → List D} {fk : S → Ou (List D)} (G : FnG X.prog X.w X.K X.mg X.base k f fd ps (spD X.K X.mg ps.length F)) (hgd : X.A.guards = some []) (hr : Room k X.A) (hg : Gl X x) (hm : X.mg x = some (.ref f)) (hk : PySem.W.keepIn X.K (.ref f) = true)
    (B : BdK X.K fd ps 0 ks g) (hps : ∀ es : List D, es.length = ks.length → (g [] es).length = ps.length) (hkw : PKF ks.length X kws fk)
    (hall : (backToKw pos (keywordEach kws X.env)).all (·.1.isSome) = true) (hks : (backToKw pos (keywordEach kws X.env)).filterMap (·.1) = ks) (hdb : (x == ("__debug__" : Str)) = false)
    (hpl : ((backTo pos (starEach [] X.env)).any (·.1) || (backToKw pos (keywordEach kws X.env)).any (·.1.isNone)) = false) :
    PD kV X (.Call (.Name x p) [] kws pos) (eCall (fun es h => F (g [] es) h) fk) := fun Wx tk => by
  obtain ⟨gu, gv, b1, b2, b3⟩ := B.to
  refine ⟨fun pins s σ H Q I ⟨W, st, o, R, q⟩ => ?_⟩
  refine wpAny_Call_Name_kw (ld_glob I hg hm ?_ hdb)
  refine PySem.W.callWith_KW0 (h₀ := X.base) I.ok.mod.kin hk hall (thn ((hkw.pk Wx tk).run pos pins s σ H _ I ⟨W, st, o, R, Po.lens q (hkw.len st)⟩) ?_) hpl
  intro ws s2 hh
  obtain ⟨zs, H2, I2, rz, W2, m2, es2, l2, R2, rs2, hl2, q2⟩ := hh
  have hwl : ws.length = ks.length := rz.length.symm.trans (rs2.length.trans hl2)
  have r0 : Reps W2 [] [] := rfl
  refine ⟨I2.kIn, ?_⟩
  rw [hks]
  refine run_fng G hgd hr tk I2 (b1 s2 [] ws I2.kIn rfl hwl) (b2 [] [] zs ws .nil rz) ?_
  exact ⟨W2, g [] es2, m2.h, by rw [(b3 W2 [] es2 [] zs r0 rs2).length]; exact hps es2 hl2, o.le l2, R2.hr, b3 W2 [] es2 [] zs r0 rs2, Po.call (F := fun es h => F (g [] es) h) R2 q2⟩

/-! ### raise -/
def sRaise0 (c : Str) : S → OutS := fun s => .ex ⟨c, [], []⟩ s
theorem clOf_mg {mg : Str → Option Value} {c : Str} {C : Addr} (h : mg c = some (.ref C)) : clOf mg c = some C := by
  unfold clOf
  rw [h]
/-- raise C("..") of a class without an own __init__ -/
theorem PSD.raise0 {C : Addr} {m : Str} {j : Nat} {p2 p3 : Pos} (hc : X.calm = true) (he : PMk X (.Call (.Name x p) [.Constant (.str m) j p2] [] p3) (fun _ H Q => Q (.ref C) none H)) (hm : X.mg x = some (.ref C)) : PSD X (.Raise (some (.Call (.Name x p) [.Constant (.str m) j p2] [] p3)) none pos) (sRaise0 x) := fun Wx tk =>
  PS.imp (ps_raise hc tk he) fun D t H ⟨W, s, o, R, q⟩ => q (.ref C) none W t H .refl .refl R ⟨C, rfl, by rw [o.cl]; exact clOf_mg hm, .inl ⟨rfl, rfl⟩⟩
def sRaise1 (c f : Str) (fe : S → Ou D) : S → OutS := fun s => (fe s).thn fun d s1 => .ex ⟨c, [f], [d]⟩ s1
/-- what __init__ of such a class promises: self.f = its argument -/
def spXI (C : Addr) (f : Str) : Sp := fun vs H Q _ => ∃ a y, vs = [.ref a, y] ∧ H a = some (exo a C none) ∧ ∀ dx, H dx = none → dx ≠ a → Q .non (upd (upd H dx (exd dx [(f, y)])) a (exo a C (some dx)))
theorem Grow.xd {W : Wd} {H : Hp} {p : Addr} {o : HO} (h : Same W.F H) (hp : H p = none) : Grow W H (W.fr p o) (upd H p o) := Grow.fr h hp
theorem PSD.raise1 {C fI : Addr} {j : Nat} {fdI : FuncData} {pi : List Str} {fn : Str} {fe : S → Ou D} {p3 : Pos} (hc : X.calm = true) (T : OexC X.K C) (iC : PySem.W.findIn X.K (.ref C) "__init__" = some (some (.ref fI))) (tI : PySem.W.typeIn X.K (.ref fI) = some (.type "function"))
    (F1 : FnOk X.prog X.w X.K X.mg X.base (L2.CX X.prog X.w) j fI fdI pi (spXI C fn)) (hr : Room (j + 1) X.A) (hb : Binds X.K fdI pi []) (hg : Gl X x) (hm : X.mg x = some (.ref C)) (he : PD kF X e fe)
    (hdb : (x == ("__debug__" : Str)) = false) (hs : starEach [e] X.env = (false, eval e X.env) :: starEach [] X.env) (hpl : (backTo p3 (starEach [] X.env)).any (·.1) = false) : PSD X (.Raise (some (.Call (.Name x p) [e] [] p3)) none pos) (sRaise1 x fn fe) := fun Wx tk =>
  PS.imp (ps_raise hc tk (pmk_oex T iC tI F1 hr hb .nil passL hg hm (pa_cons (he Wx tk) pa_nil hs) hdb hs hpl)) fun D t H ⟨W, s, o, R, q⟩ => ⟨W, s, o, R, PoS.thn q fun d v s1 W1 H1 st ln R1 rv q1 => by
    refine ⟨by show 1 ≤ 1000; decide, fun a ha => ⟨a, v, rfl, upd_same, fun dx hdx hne => ⟨rfl, dx, [(fn, v)], upd_same, ?_, ?_, ?_⟩⟩⟩
    · rw [upd_ne hne, upd_same]
    · rw [upd_ne hne] at hdx
      exact hdx
    · have hd1 : H1 dx = none := by rw [upd_ne hne] at hdx; exact hdx
      have eH : upd (L2.del (upd (upd (upd H1 a (exo a C none)) dx (exd dx [(fn, v)])) a (exo a C (some dx))) a) dx (.xd [(fn, v)]) = upd H1 dx (.xd [(fn, v)]) := by
        funext b
        by_cases e1 : b = dx
        · rw [e1, upd_same, upd_same]
        · rw [upd_ne e1, upd_ne e1]
          by_cases e2 : b = a
          · rw [e2, del_same, ha]
          · rw [del_ne e2, upd_ne e2, upd_ne e1, upd_ne e2]
      rw [eH]
      have g := Grow.xd (o := .xd [(fn, v)]) R1.hr.same hd1
      exact q1 (.ref C) (some dx) _ t _ g.step .refl (g.rel R1) ⟨C, rfl, by rw [(o.le (st.le.trans g.le)).cl]; exact clOf_mg hm, .inr ⟨dx, [v], rfl, upd_same, rfl, ⟨v, [], rfl, Rep.mono g.le rv, rfl⟩⟩⟩⟩
end
/-- the __init__ of such a class -/
theorem ok_xinit {P : Program} {w : World} {K : PySem.W.Frag} {mg : Str → Option Value} {base : Heap} {C f : Addr} {qual fn pn : Str} {st : Stmt} {fd : FuncData} {p1 p2 p3 p4 p5 : Pos} (F : Fun K "__init__" qual st f fd) (S : FnScope ["self", pn] ["self", pn] (defScope st)) (T : OexC K C)
    (hno : PySem.W.findIn K (.ref C) fn = some none) (hb : defBody st = [.Assign [.Attribute (.Name "self" p1) fn p2] (.Name pn p3) p4]) (h1 : Vis (defScope st) "self") (h2 : Vis (defScope st) pn) (n1 : (pn == ("__debug__" : Str)) = false) (n2 : (pn == ("__classdict__" : Str)) = false)
    (hsw : ∀ env, swapsWith (.Name pn p3) (some (.Attribute (.Name "self" p1) fn p2)) p4.line env = pure false) : FnOk P w K mg base (L2.CX P w) 1 f fd ["self", pn] (spXI C fn) := by
  refine F.okX S (fun vs H Q E h => ?_) (fun cdv A outer s H vs Q E hr h => ?_)
  · obtain ⟨a, y, rfl, _⟩ := h
    rfl
  · obtain ⟨a, y, rfl, hH, q⟩ := h
    rw [hb]
    exact ⟨_, pss_one (ps_ost (pe_var (i := 0) rfl h1 (by decide) (by decide)) (pe_var (i := 1) rfl h2 n1 n2) (hsw _)), y, rfl, .ref a, rfl, a, C, rfl, T, hno, .inl ⟨hH, fun dx hdx hne => q dx hdx hne⟩⟩
end TD

end
section
set_option maxRecDepth 100000
set_option maxHeartbeats 4000000
/-! TdP: isinstance, stores by subscript. -/
namespace TD
open PySem L2 PyProof.Rows

/-! ### isinstance against built-in types -/
def tyName : D → Option String
  | .non => some "NoneType"
  | .bl _ => some "bool"
  | .int _ => some "int"
  | .str _ => some "str"
  | .nd .tup _ => some "tuple"
  | .nd .lst _ => some "list"
  | .nd .dct _ => some "dict"
  | _ => none
def isiB (T U : String) : Bool := T == U || (T == "bool" && U == "int")
def tyNames : List String := ["NoneType", "bool", "int", "str", "tuple", "list", "dict"]
theorem kit_tab : ∀ T ∈ tyNames, ∀ U ∈ ["bool", "int", "str", "tuple", "list", "dict"], kitB T U = some (isiB T U) := by decide +kernel
theorem tyName_mem {d : D} {T : String} (h : tyName d = some T) : T ∈ tyNames := by
  unfold tyName at h
  unfold tyNames
  split at h <;> first | (cases h; simp) | cases h
theorem tyX_rep {K : PySem.W.Frag} {W : Wd} {H : Hp} {d : D} {v : V} {T : String} (sm : Same W.F H) (r : RepH W H d v) (h : tyName d = some T) : TyX K H v (.type T) := by
  unfold tyName at h
  split at h
  · cases h; rw [r.non]; exact .base .non
  · cases h; rw [r.bl]; exact .base (.bl _)
  · cases h; rw [r.int]; exact .base (.int _)
  · cases h; rw [r.str]; exact .base (.str _)
  · cases h
    obtain ⟨a, xs, rfl, hp, _⟩ := r.tup sm
    exact .base (.tup hp)
  · cases h
    obtain ⟨a, xs, rfl, hp, _⟩ := r.lst sm
    exact .base (.lst hp)
  · cases h
    obtain ⟨a, rfl, ⟨k, hp, _⟩ | ⟨k, hp, _⟩⟩ := r.dct sm
    · exact .base (.dK hp)
    · exact .base (.dT hp)
  · cases h
def eIsi (us : List String) (fa : S → Ou Ar) : S → Ou (D × Bool) := fun s => (fa s).bind fun x s1 => match s1.look x with
  | some d => match tyName d with
    | some T => .ok (.bl (us.any (isiB T)), false) s1
    | none => .bad
  | none => .bad
section
variable {X : Cx} {e : Expr} {p q q1 q2 q3 pos : Pos} {U U1 U2 : String} {xU xU1 xU2 : Str}
theorem PD.isi {fa : S → Ou Ar} (hg : Gl X "isinstance") (hm : X.mg "isinstance" = none) (ha : PD kA X e fa) (hgU : Gl X xU) (hmU : X.mg xU = none) (hvU : bootBuiltins xU = some (.type U)) (hU : U ∈ ["bool", "int", "str", "tuple", "list", "dict"]) (nU : xU ≠ "__name__") (dU : (xU == ("__debug__" : Str)) = false)
    (h1 : starEach [e, .Name xU q] X.env = (false, eval e X.env) :: starEach [.Name xU q] X.env) (h2 : (backTo pos (starEach [.Name xU q] X.env)).any (·.1) = false) (h3 : starEach [.Name xU q] X.env = (false, eval (.Name xU q) X.env) :: starEach [] X.env) :
    PD kV X (.Call (.Name "isinstance" p) [e, .Name xU q] [] pos) (eIsi [U] fa) := fun Wx tk =>
  PE.imp (pe_callB call_isi hg hm (by decide +kernel) (pa_cons (ha Wx tk) (pa_cons (pe_bltn (v := .ty U) hgU hmU hvU rfl nU dU) pa_nil h3) h1) (by decide) (by decide) h1 h2) fun t H Q ⟨W, s, o, R, q⟩ => ⟨W, s, o, R, Po.bind q fun x v s1 W1 H1 st ln R1 rx q1 => by
    split at q1
    · rename_i d ed
      split at q1
      · rename_i T eT
        have z := (Po.aft R1 q1).flat (v := .bl (isiB T U)) R1.hr.same (by show _ = _; simp)
        exact ⟨v, .ty U, .type T, .type U, _, rfl, .ty U, tyX_rep R1.hr.same (R1.look rx ed) eT, kit_ty (kit_tab T (tyName_mem eT) U hU), z⟩
      · exact False.elim q1
    · exact False.elim q1⟩
theorem PD.isi2 {k : Nat} {fa : S → Ou Ar} (hg : Gl X "isinstance") (hm : X.mg "isinstance" = none) (ha : PD kA X e fa) (hg1 : Gl X xU1) (hm1 : X.mg xU1 = none) (hv1 : bootBuiltins xU1 = some (.type U1)) (hU1 : U1 ∈ ["bool", "int", "str", "tuple", "list", "dict"]) (n1 : xU1 ≠ "__name__") (d1 : (xU1 == ("__debug__" : Str)) = false)
    (hg2 : Gl X xU2) (hm2 : X.mg xU2 = none) (hv2 : bootBuiltins xU2 = some (.type U2)) (hU2 : U2 ∈ ["bool", "int", "str", "tuple", "list", "dict"]) (n2 : xU2 ≠ "__name__") (d2 : (xU2 == ("__debug__" : Str)) = false)
    (h1 : starEach [e, .Tuple [.Name xU1 q1, .Name xU2 q2] k q3] X.env = (false, eval e X.env) :: starEach [.Tuple [.Name xU1 q1, .Name xU2 q2] k q3] X.env) (h2 : (backTo pos (starEach [.Tuple [.Name xU1 q1, .Name xU2 q2] k q3] X.env)).any (·.1) = false)
    (h3 : starEach [.Tuple [.Name xU1 q1, .Name xU2 q2] k q3] X.env = (false, eval (.Tuple [.Name xU1 q1, .Name xU2 q2] k q3) X.env) :: starEach [] X.env)
    (h4 : starEach [.Name xU1 q1, .Name xU2 q2] X.env = (false, eval (.Name xU1 q1) X.env) :: starEach [.Name xU2 q2] X.env) (h5 : starEach [.Name xU2 q2] X.env = (false, eval (.Name xU2 q2) X.env) :: starEach [] X.env) :
    PD kV X (.Call (.Name "isinstance" p) [e, .Tuple [.Name xU1 q1, .Name xU2 q2] k q3] [] pos) (eIsi [U1, U2] fa) := fun Wx tk =>
  PE.imp (pe_callB call_isiT hg hm (by decide +kernel) (pa_cons (ha Wx tk) (pa_cons (pe_tup (pa_cons (pe_bltn (v := .ty U1) hg1 hm1 hv1 rfl n1 d1) (pa_cons (pe_bltn (v := .ty U2) hg2 hm2 hv2 rfl n2 d2) pa_nil h5) h4)) pa_nil h3) h1) (by decide) (by decide) h1 h2) fun t H Q ⟨W, s, o, R, q⟩ => ⟨W, s, o, R, Po.bind q fun x v s1 W1 H1 st ln R1 rx q1 => by
    split at q1
    · rename_i d ed
      split at q1
      · rename_i T eT
        refine ⟨by show 2 ≤ sizeLine; decide, fun tp htp => ?_⟩
        have g := Grow.new (o := .tup [.ty U1, .ty U2]) R1.hr.same htp
        have z : Q (.bl ([U1, U2].any (isiB T))) (upd H1 tp (.tup [.ty U1, .ty U2])) := Po.aft R1 q1 _ _ _ g (.f rfl)
        refine ⟨v, tp, [.ty U1, .ty U2], .type T, [.type U1, .type U2], _, rfl, upd_same, .cons (.ty U1) (.cons (.ty U2) .nil), tyX_rep (sm := g.same) ((R1.look rx ed).grow g) eT, ?_, z⟩
        refine kitAny_cons (kit_ty (kit_tab T (tyName_mem eT) U1 hU1)) (fun e1 => kitAny_cons (kit_ty (kit_tab T (tyName_mem eT) U2 hU2)) (fun e2 => ?_) fun e2 => ?_) fun e1 => ?_
        · rw [show ([U1, U2].any (isiB T)) = false by simp [e1, e2]]
          rfl
        · simp [e2]
        · simp [e1]
      · exact False.elim q1
    · exact False.elim q1⟩
end

/-! ### x[i] = e -/
def PrimS (K : PySem.W.Frag) (r : TSet) (g : D → D → D → Option D) : Prop := ∀ (W : Wd) (H : Hp) (d i e : D) (a : Addr) (o : HO) (vi ve : V) (Q : Hp → Prop) (d' : D), W.K = K → Same W.F H → H a = some o → ORep W d o → Rep W i vi → Rep W e ve → g d i e = some d' →
  (∀ o', ORep W d' o' → Q (upd H a o')) → r (.ref a) vi ve H Q
def sSub (g : D → D → D → Option D) (fe : S → Ou D) (fo : S → Ou Ar) (fi : S → Ou D) : S → OutS := fun s => (fe s).thn fun e s1 => (fo s1).thn fun x s2 => (fi s2).thn fun i s3 => match s3.look x with
  | some d => match g d i e with
    | some d' => match s3.put d' x with
      | some s4 => .nx s4
      | none => .bad
    | none => .bad
  | none => .bad
theorem PSD.sub {X : Cx} {r : TSet} {g : D → D → D → Option D} {o i e : Expr} {tp pos : Pos} {fe fi : S → Ou D} {fo : S → Ou Ar} (hr : PSet X r) (hp : PrimS X.K r g) (he : PD kF X e fe) (ho : PD kA X o fo) (hi : PD kF X i fi)
    (hpg : ∀ {to ti : TE}, PE X o to → PE X i ti → PG X (.Subscript o i tp) (gSub to ti r)) (hs : swapsWithSole [.Subscript o i tp] e pos.line X.env = pure false) (hw : swappedStores [.Subscript o i tp] e X.env = pure none) : PSD X (.Assign [.Subscript o i tp] e pos) (sSub g fe fo fi) := fun Wx tk =>
  PS.imp (ps_asg (he Wx tk) (hpg (ho Wx tk) (hi Wx tk)) hs hw) fun D t H ⟨W, s, o, R, q⟩ => ⟨W, s, o, R, PoS.thn q fun de ve s1 W1 H1 st ln R1 re q1 => ⟨W1, s1, o.le st.le, R1, PoS.thn q1 fun x v s2 W2 H2 st2 ln2 R2 rx q2 => ⟨W2, s2, (o.le st.le).le st2.le, R2, PoS.thn q2 fun di vi s3 W3 H3 st3 ln3 R3 ri q3 => by
    split at q3
    · rename_i d ed
      split at q3
      · rename_i d' eg
        split at q3
        · rename_i s4 ep
          obtain ⟨a, u, rfl, hF, hH, ro, l4, fin⟩ := R3.put1 (RepA.mono st3.le rx) ed ep
          refine hp W3 H3 d di de a u vi ve _ d' (((o.le st.le).le st2.le).le st3.le).K R3.hr.same hH ro ri (Rep.mono (st2.le.trans st3.le) re) eg fun o' r' => ?_
          obtain ⟨R4, st4⟩ := fin o' r'
          exact q3 W3 t _ st4 l4 R4
        · exact False.elim q3
      · exact False.elim q3
    · exact False.elim q3⟩⟩⟩
def setLG (d i e : D) : Option D := match d, i with
  | .nd .lst xs, .int k => match ixN xs.length k with
    | some j => some (.nd .lst (xs.set j e))
    | none => none
  | _, _ => none
theorem Reps.set {W : Wd} {e : D} {v : V} (r : Rep W e v) : ∀ {ds : List D} {vs : List V} (n : Nat), Reps W ds vs → Reps W (ds.set n e) (vs.set n v)
  | [], vs, n, h => by cases (show vs = [] from h); exact rfl
  | d :: ds, _, 0, ⟨w, t, q, h, rs⟩ => by subst q; exact ⟨v, t, rfl, r, rs⟩
  | d :: ds, _, n + 1, ⟨w, t, q, h, rs⟩ => by subst q; exact ⟨w, _, rfl, h, Reps.set r n rs⟩
theorem pr_setL {K : PySem.W.Frag} : PrimS K rSetL setLG := fun W H d i e a o vi ve Q d' hK sm hH ro ri re eg af => by
  unfold setLG at eg
  split at eg
  · rename_i xs k
    split at eg
    · rename_i j ej
      cases eg
      obtain ⟨us, rfl, rx⟩ := ro
      cases (show vi = .int k from ri)
      exact ⟨a, us, k, j, rfl, rfl, hH, by rw [rx.length]; exact ej, af _ ⟨_, rfl, rx.set re j⟩⟩
    · cases eg
  · cases eg
end TD

end
section
set_option maxRecDepth 100000
set_option maxHeartbeats 4000000
/-! TdQ: several names stored at once. -/
namespace TD
open PySem L2 PyProof.Rows

/-- the fresh ones -/
def newV : List (D × Bool) → List V → List V
  | a :: as, v :: vs => if a.2 = true then v :: newV as vs else newV as vs
  | _, _ => []
inductive RepVs (W : Wd) (O N : Addr → Prop) (H : Hp) : List (D × Bool) → List V → Prop
  | nil : RepVs W O N H [] []
  | cons {a : D × Bool} {v : V} {as : List (D × Bool)} {vs : List V} : RepV W O N H a.1 a.2 v → (a.2 = true → v ∉ newV as vs) → RepVs W O N H as vs → RepVs W O N H (a :: as) (v :: vs)
theorem RepVs.base {W : Wd} {O N0 N1 : Addr → Prop} {H : Hp} {as : List (D × Bool)} {vs : List V} (b : ∀ a, N1 a → N0 a) (h : RepVs W O N1 H as vs) : RepVs W O N0 H as vs := by
  induction h with
  | nil => exact .nil
  | cons r n _ ih => exact .cons (r.base b) n ih
def kVs : Rk (List (D × Bool)) (List V) := ⟨fun W s t N H as vs => RepVs W (Ow s t) N H as vs, fun b h => h.base b⟩
theorem RepVs.new {W : Wd} {O N : Addr → Prop} {H : Hp} {as : List (D × Bool)} {vs : List V} (h : RepVs W O N H as vs) : ∀ v ∈ newV as vs, ∃ a, v = .ref a ∧ N a ∧ W.F a = none ∧ a ∉ W.io ∧ ¬ O a := by
  induction h with
  | nil => intro v hv; cases hv
  | @cons a v as vs r n _ ih =>
    intro x hx
    unfold newV at hx
    split at hx
    · rename_i e
      rcases List.mem_cons.mp hx with rfl | hx
      · obtain ⟨d, fr⟩ := a
        have e : fr = true := e
        subst e
        obtain ⟨b, o, e1, e2, e3, e4, e5, _⟩ := r.ofT
        exact ⟨b, e1, e2, e3, e4, e5⟩
      · exact ih x hx
    · exact ih x hx
theorem RepV.step {W W' : Wd} {O O' N : Addr → Prop} {H H' : Hp} {d : D} {fr : Bool} {v : V} (r : RepV W O N H d fr v) (s : Step W O H W' O' H') : RepV W' O' N H' d fr v := by
  cases fr with
  | false => exact .mkF (r.ofF.mono s.le)
  | true =>
    obtain ⟨a, o, e1, e2, e3, e4, e5, e6, e7⟩ := r.ofT
    have ap := (Apart.mk (o := o) e3 e4 e5 e6).step s
    exact .mkT ⟨a, o, e1, e2, ap.F, ap.io, ap.O, ap.at_, e7.mono s.le⟩
def vNil : S → Ou (List (D × Bool)) := fun s => .ok [] s
def vCons (fa : S → Ou (D × Bool)) (fr : S → Ou (List (D × Bool))) : S → Ou (List (D × Bool)) := fun s => (fa s).bind fun x s1 => (fr s1).bind fun xs s2 => .ok (x :: xs) s2
section
variable {X : Cx} {e : Expr} {es : List Expr}
theorem PAD.vnil : PAD kVs X [] vNil := fun Wx tk => ⟨fun pos pins s σ H Q I ⟨W, s', o, R, q⟩ => pa_nil.run pos pins s σ H Q I (Po.pure q R .nil)⟩
theorem PAD.vcons {fa : S → Ou (D × Bool)} {fr : S → Ou (List (D × Bool))} (ha : PD kV X e fa) (hr : PAD kVs X es fr) (hs : starEach (e :: es) X.env = (false, eval e X.env) :: starEach es X.env) : PAD kVs X (e :: es) (vCons fa fr) := fun Wx tk =>
  ⟨fun pos pins s σ H Q I ⟨W, s', o, R, q⟩ => (pa_cons (ha Wx tk) (hr Wx tk) hs).run pos pins s σ H Q I ⟨W, s', o, R, by
    unfold vCons at q
    cases ef : fa s' with
    | ok x s1 =>
      rw [ef, Ou.bind_ok] at q
      intro v W1 H1 st ln R1 rx
      refine ⟨W1, s1, o.le st.le, R1, ?_⟩
      cases er : fr s1 with
      | ok xs s2 =>
        rw [er, Ou.bind_ok] at q
        intro vs W2 H2 st2 ln2 R2 rxs
        have rx : RepV W1 (Ow s1 σ) (New s' σ H) H1 x.1 x.2 v := rx
        have rxs : RepVs W2 (Ow s2 σ) (New s1 σ H1) H2 xs vs := rxs
        refine q (v :: vs) W2 H2 (st.trans st2) (ln.trans ln2) R2 (RepVs.cons (rx.step st2) (fun e hv => ?_) (rxs.base fun a z => z.elim (fun z => .inl (st.back z)) fun z => (st.newO a z).elim .inr .inl))
        obtain ⟨d, fr⟩ := x
        have e : fr = true := e
        subst e
        obtain ⟨a, o, rfl, _, _, _, e5, e6, _⟩ := rx.ofT
        obtain ⟨b, eb, nb, _⟩ := rxs.new _ hv
        cases eb
        rcases nb with nb | nb
        · rw [e6] at nb; cases nb
        · exact e5 nb
      | ex y s2 => rw [er, Ou.bind_ex] at q; exact fun c dd W2 H2 st2 ln2 R2 rx2 => q c dd W2 H2 (st.trans st2) (ln.trans ln2) R2 rx2
      | bad => rw [er, Ou.bind_bad] at q; exact q
    | ex y s1 => rw [ef, Ou.bind_ex] at q; exact q
    | bad => rw [ef, Ou.bind_bad] at q; exact q⟩⟩
end
/-- all are stored -/
def putsL : List Nat → List (D × Bool) → S → OutS
  | [], [], s => .nx s
  | i :: is, a :: as, s => (sPut i a.1 a.2 s).seq (putsL is as)
  | _, _, _ => .bad
def setsL : List Nat → List V → L2.St → L2.St
  | i :: is, v :: vs, t => setsL is vs (t.set i (some v))
  | _, _, t => t
theorem PoS.puts {W0 W : Wd} {s0 : S} {t0 : L2.St} {H0 H : Hp} {Wx : WX} {D : Ends} : ∀ {is : List Nat} {as : List (TD.D × Bool)} {vs : List V} {s : S} {t : L2.St}, Step W0 (Ow s0 t0) H0 W (Ow s t) H → Lent s0 s t0 t → Rel W s t H → RepVs W (Ow s t) (New s0 t0 H0) H as vs →
    PoS W0 s0 t0 H0 Wx D (putsL is as s) → D.nx (setsL is vs t) H
  | [], [], _, s, t, st, ln, R, .nil, h => h W t H st ln R
  | [], _ :: _, _, _, _, _, _, _, _, h => False.elim h
  | _ :: _, [], _, _, _, _, _, _, _, h => False.elim h
  | i :: is, a :: as, _, s, t, st, ln, R, .cons (v := v) (vs := vs) rv nn rs, h => by
    unfold putsL sPut at h
    split at h
    · exact False.elim h
    · rename_i x hx e
      have nl : ∀ d, s.r[i]? ≠ some (.own true d) := fun d' z => by
        rw [e] at z
        exact hx d' (Option.some.inj z)
      have rk : kV.rp W s t (New s0 t0 H0) H a v := rv
      have R1 := R.put (d := a.1) (fr := a.2) rk (List.getElem?_eq_some_iff.mp e).1
      refine PoS.puts (vs := vs) (st.put rk fun a z => z.symm) (ln.put nl) R1 ?_ h
      have key : ∀ {as : List (TD.D × Bool)} {vs : List V}, (a.2 = true → v ∉ newV as vs) → RepVs W (Ow s t) (New s0 t0 H0) H as vs → RepVs W (Ow (s.set i (slOf a.1 a.2)) (t.set i (some v))) (New s0 t0 H0) H as vs := by
        intro as vs nn h
        induction h with
        | nil => exact .nil
        | @cons b u bs us r n _ ih =>
          refine .cons ?_ n (ih fun e z => nn e ?_)
          · obtain ⟨d, fr⟩ := b
            cases fr with
            | false => exact .mkF r.ofF
            | true =>
              obtain ⟨p, o, e1, e2, e3, e4, e5, e6, e7⟩ := r.ofT
              refine .mkT ⟨p, o, e1, e2, e3, e4, fun ⟨j, z⟩ => ?_, e6, e7⟩
              rcases own_put z with ⟨_, f1, f2⟩ | ⟨_, f1⟩
              · refine nn f1 ?_
                unfold newV
                rw [if_pos rfl, f2, ← e1]
                exact List.mem_cons_self
              · exact e5 ⟨j, f1⟩
          · unfold newV
            split
            · exact List.mem_cons_of_mem _ z
            · exact z
      exact key nn rs
    · exact False.elim h
def sPar (is : List Nat) (f : S → Ou (List (D × Bool))) : S → OutS := fun s => (f s).thn fun as s1 => putsL is as s1
theorem tS_par {K : PySem.W.Frag} {mg : Str → Option Value} {Wx : WX} {is : List Nat} {f : S → Ou (List (D × Bool))} {D : Ends} {t : L2.St} {H : Hp} (h : tS K mg Wx (sPar is f) D t H) : tD kVs K mg Wx f t H fun vs H1 => D.nx (setsL is vs t) H1 := by
  obtain ⟨W, s, o, R, q⟩ := h
  refine ⟨W, s, o, R, ?_⟩
  unfold sPar at q
  cases ef : f s with
  | ok as s1 =>
    rw [ef] at q
    exact fun vs W1 H1 st ln R1 rs => PoS.puts st ln R1 rs q
  | ex y s1 => rw [ef] at q; exact fun c dd W1 H1 st ln R1 rx => q c dd W1 t H1 st ln R1 rx
  | bad => rw [ef] at q; exact q
section
variable {X : Cx} {a b c : Expr} {pos px py pz pt pt2 : Pos} {kt k2 : Nat} {x y z : Str}
theorem RepVs.len {W : Wd} {O N : Addr → Prop} {H : Hp} {as : List (D × Bool)} {vs : List V} (h : RepVs W O N H as vs) : vs.length = as.length := by
  induction h with
  | nil => rfl
  | cons _ _ _ ih => rw [List.length_cons, List.length_cons, ih]
/-- a, b = e, f -/
theorem PSD.par2 {i j : Nat} {f : S → Ou (List (D × Bool))} (hc : X.calm = true) (hN : X.N.Nodup) (hi : X.N[i]? = some x) (hj : X.N[j]? = some y) (hij : i ≠ j) (hx : X.env.scope.names.lookup x = some .local) (hy : X.env.scope.names.lookup y = some .local) (ha : PAD kVs X [a, b] f)
    (hl : ∀ s as s', f s = .ok as s' → as.length = 2) (hw : swappedStores [.Tuple [.Name x px, .Name y py] kt pt] (.Tuple [a, b] k2 pt2) X.env = pure (some [x, y]))
    (hs : swapsWithSole [.Tuple [.Name x px, .Name y py] kt pt] (.Tuple [a, b] k2 pt2) pos.line X.env = pure false) : PSD X (.Assign [.Tuple [.Name x px, .Name y py] kt pt] (.Tuple [a, b] k2 pt2) pos) (sPar [i, j] f) := fun Wx tk =>
  PS.imp (ps_par hc hN hi hj hij hx hy (ha Wx tk) hw hs) fun D t H h => by
    obtain ⟨W, s, o, R, q⟩ := tS_par h
    refine ⟨W, s, o, R, ?_⟩
    cases ef : f s with
    | ok as s1 =>
      rw [ef] at q
      intro vs W1 H1 st ln R1 rs
      have e := (RepVs.len (show RepVs _ _ _ _ as vs from rs)).trans (hl _ _ _ ef)
      have z := q vs W1 H1 st ln R1 rs
      match vs, e with
      | [v, w], _ => exact ⟨v, w, rfl, z⟩
    | ex y s1 => rw [ef] at q; exact q
    | bad => rw [ef] at q; exact q
end
theorem vCons_len {n : Nat} {fa : S → Ou (D × Bool)} {fr : S → Ou (List (D × Bool))} (h : ∀ s ds s', fr s = .ok ds s' → ds.length = n) : ∀ s ds s', vCons fa fr s = .ok ds s' → ds.length = n + 1 := fun s ds s' e => by
  unfold vCons at e
  cases ea : fa s with
  | ok d s1 =>
    rw [ea] at e
    cases er : fr s1 with
    | ok ds1 s2 =>
      rw [Ou.bind_ok, er] at e
      cases e
      rw [List.length_cons, h _ _ _ er]
    | ex x s2 => rw [Ou.bind_ok, er] at e; cases e
    | bad => rw [Ou.bind_ok, er] at e; cases e
  | ex x s1 => rw [ea] at e; cases e
  | bad => rw [ea] at e; cases e
theorem vNil_len : ∀ s ds s', vNil s = .ok ds s' → ds.length = 0 := fun s ds s' e => by cases e; rfl
end TD

end
section
set_option maxRecDepth 100000
set_option maxHeartbeats 4000000
/-! TdR: three names stored at once; a display that is unpacked into names, some of them cells. -/
namespace TD
open PySem L2 PyProof.Rows
section
variable {X : Cx} {a b c : Expr} {pos px py pz pt pt2 : Pos} {kt k2 : Nat} {x y z : Str}
def tPar3 (i j l : Nat) (ta : TA) : TS := fun D t H => ta t H fun vs H1 => ∃ u v w, vs = [u, v, w] ∧ D.nx (((t.set i (some u)).set j (some v)).set l (some w)) H1
theorem ps_par3 {i j l : Nat} {ta : TA} (hc : X.calm = true) (hN : X.N.Nodup) (hi : X.N[i]? = some x) (hj : X.N[j]? = some y) (hl : X.N[l]? = some z) (hij : i ≠ j) (hil : i ≠ l) (hjl : j ≠ l)
    (hx : X.env.scope.names.lookup x = some .local) (hy : X.env.scope.names.lookup y = some .local) (hz : X.env.scope.names.lookup z = some .local) (ha : PA X [a, b, c] ta)
    (hw : swappedStores [.Tuple [.Name x px, .Name y py, .Name z pz] kt pt] (.Tuple [a, b, c] k2 pt2) X.env = pure (some [x, y, z]))
    (hs : swapsWithSole [.Tuple [.Name x px, .Name y py, .Name z pz] kt pt] (.Tuple [a, b, c] k2 pt2) pos.line X.env = pure false) :
    PS X (.Assign [.Tuple [.Name x px, .Name y py, .Name z pz] kt pt] (.Tuple [a, b, c] k2 pt2) pos) (tPar3 i j l ta) := by
  constructor
  intro pins s σ H D I h
  rw [exec_Assign_arm]
  refine wpAny_bind (wpAny_standAt ?_)
  rw [hs]
  refine wpAny_bind (wpAny_pure ?_)
  rw [if_neg Bool.false_ne_true]
  refine wpAny_bind (Tuple_ (thn (ha.run _ pins s σ H _ I h) ?_))
  rintro us s1 ⟨vs, H1, I1, r1, v1, v2, v3, rfl, q1⟩
  match us, r1 with
  | [u1, u2, u3], .cons r1 (.cons r2 (.cons r3 .nil)) =>
    refine wpAny_newObj_type ?_ (show 3 ≤ sizeLine by decide)
    have I2 := I1.kept (t' := s1.toks) (h' := s1.heap.push { cls := .type "tuple", data := .seq [u1, u2, u3].toArray }) fun b o e => Heap.get?_push_of_some _ e
    rw [hw]
    refine wpAny_bind (wpAny_pure ?_)
    show wpAny _ _ (do rule "assign.swapped-stores"; let items ← unpackItems (.ref s1.heap.objs.size) 3 none; assignInOrder [fun v => bindName X.env z v, fun v => bindName X.env y v, fun v => bindName X.env x v] items.reverse; pure Flow.next) _ _ _
    refine wpAny_bind (wpAny_rule (wpAny_bind (unpackItems_tuple (items := #[u1, u2, u3]) (I.ok.hd hc) (IsTup.new s1.heap _) ?_)))
    intro h' hx'
    have I3 := I2.kept (h' := h') (t' := s1.toks) fun b o e => hx' b o (Nat.ne_of_lt (Heap.lt_size e)) e
    show wpAny _ _ (assignInOrder [fun v => bindName X.env z v, fun v => bindName X.env y v, fun v => bindName X.env x v] [u3, u2, u1] >>= fun _ => pure Flow.next) _ _ _
    refine wpAny_bind (assignInOrder_cons (wpAny_bindName (store_ok I3 hN hl (.inl hz) r3 ?_ (.inr hz))))
    intro s2 I4
    refine assignInOrder_cons (wpAny_bindName (store_ok I4 hN hj (.inl hy) r2 ?_ (.inr hy)))
    intro s3 I5
    refine assignInOrder_cons (wpAny_bindName (store_ok I5 hN hi (.inl hx) r1 (fun s4 I6 => assignInOrder_nil (wpAny_pure ?_)) (.inr hx)))
    have e : ((σ.set l (some v3)).set j (some v2)).set i (some v1) = ((σ.set i (some v1)).set j (some v2)).set l (some v3) := by
      rw [List.set_comm _ _ (Ne.symm hij), List.set_comm _ _ (Ne.symm hil), List.set_comm _ _ (Ne.symm hjl)]
    rw [e] at I6
    exact ⟨_, H1, I6, q1⟩
/-- a, b, c = e, f, g -/
theorem PSD.par3 {i j l : Nat} {f : S → Ou (List (D × Bool))} (hc : X.calm = true) (hN : X.N.Nodup) (hi : X.N[i]? = some x) (hj : X.N[j]? = some y) (hl : X.N[l]? = some z) (hij : i ≠ j) (hil : i ≠ l) (hjl : j ≠ l)
    (hx : X.env.scope.names.lookup x = some .local) (hy : X.env.scope.names.lookup y = some .local) (hz : X.env.scope.names.lookup z = some .local) (ha : PAD kVs X [a, b, c] f) (hlen : ∀ s as s', f s = .ok as s' → as.length = 3)
    (hw : swappedStores [.Tuple [.Name x px, .Name y py, .Name z pz] kt pt] (.Tuple [a, b, c] k2 pt2) X.env = pure (some [x, y, z]))
    (hs : swapsWithSole [.Tuple [.Name x px, .Name y py, .Name z pz] kt pt] (.Tuple [a, b, c] k2 pt2) pos.line X.env = pure false) : PSD X (.Assign [.Tuple [.Name x px, .Name y py, .Name z pz] kt pt] (.Tuple [a, b, c] k2 pt2) pos) (sPar [i, j, l] f) := fun Wx tk =>
  PS.imp (ps_par3 hc hN hi hj hl hij hil hjl hx hy hz (ha Wx tk) hw hs) fun D t H h => by
    obtain ⟨W, s, o, R, q⟩ := tS_par h
    refine ⟨W, s, o, R, ?_⟩
    cases ef : f s with
    | ok as s1 =>
      rw [ef] at q
      intro vs W1 H1 st ln R1 rs
      have e := (RepVs.len (show RepVs _ _ _ _ as vs from rs)).trans (hlen _ _ _ ef)
      have zz := q vs W1 H1 st ln R1 rs
      match vs, e with
      | [u, v, w], _ => exact ⟨u, v, w, rfl, zz⟩
    | ex y s1 => rw [ef] at q; exact q
    | bad => rw [ef] at q; exact q
end
theorem RepVs.step {W W' : Wd} {O O' N : Addr → Prop} {H H' : Hp} {as : List (D × Bool)} {vs : List V} (h : RepVs W O N H as vs) (s : Step W O H W' O' H') : RepVs W' O' N H' as vs := by
  induction h with
  | nil => exact .nil
  | cons r n _ ih => exact .cons (r.step s) n ih
/-! the display is made, then unpacked -/
section
variable {X : Cx} {es ts : List Expr} {pos pt pt2 : Pos} {kt k2 : Nat}
/-- the targets are names in these slots -/
structure NmsOk (g : TGs) (is : List Nat) : Prop where
  run : ∀ (vs : List V) (t : L2.St) (H : Hp) (Q : L2.St → Hp → Prop), vs.length = is.length → Q (setsL is vs t) H → g vs t H Q
theorem NmsOk.nil : NmsOk gNil [] := ⟨fun vs t H Q e q => by
  cases vs with
  | nil => exact ⟨rfl, q⟩
  | cons v vs => cases e⟩
theorem NmsOk.cons {i : Nat} {g : TGs} {is : List Nat} (h : NmsOk g is) : NmsOk (gCons (gName i) g) (i :: is) := ⟨fun vs t H Q e q => by
  cases vs with
  | nil => cases e
  | cons v vs => exact ⟨v, vs, rfl, h.run vs _ H Q (Nat.succ.inj e) q⟩⟩
theorem PSD.parT {is : List Nat} {g : TGs} {f : S → Ou (List (D × Bool))} (hc : X.calm = true) (hg : PGs X ts g) (hi : NmsOk g is) (ha : PAD kVs X es f) (hl : ∀ s as s', f s = .ok as s' → as.length = is.length) (hsz : is.length ≤ 1000)
    (hn : (assignEach ts X.env).length = is.length) (hst : (assignEach ts X.env).findIdx? (·.1) = none) (hs : swapsWithSole [.Tuple ts kt pt] (.Tuple es k2 pt2) pos.line X.env = pure false) (hw : swappedStores [.Tuple ts kt pt] (.Tuple es k2 pt2) X.env = pure none) :
    PSD X (.Assign [.Tuple ts kt pt] (.Tuple es k2 pt2) pos) (sPar is f) := fun Wx tk =>
  PS.imp (ps_asg (pe_tup (ha Wx tk)) (pg_tup hc hg hn hst) hs hw) fun D t H ⟨W, s, o, R, q⟩ => ⟨W, s, o, R, by
    unfold sPar at q
    cases ef : f s with
    | ok as s1 =>
      rw [ef] at q
      intro vs W1 H1 st ln R1 rs
      have rs : RepVs W1 (Ow s1 t) (New s t H) H1 as vs := rs
      have e : vs.length = is.length := rs.len.trans (hl _ _ _ ef)
      refine ⟨by rw [e]; exact small_line hsz, fun p hp => ⟨p, vs, rfl, SqT.of upd_same, e, hi.run vs t _ _ e ?_⟩⟩
      have g := Grow.new (o := .tup vs) R1.hr.same hp
      have rs2 := rs.step (O' := Ow s1 t) g.step
      exact PoS.puts (st.trans g.step) ln (g.rel R1) rs2 q
    | ex y s1 => rw [ef] at q; exact fun c dd W1 H1 st ln R1 rx => q c dd W1 t H1 st ln R1 rx
    | bad => rw [ef] at q; exact q⟩
end
end TD

end
section
set_option maxRecDepth 100000
set_option maxHeartbeats 4000000
/-! TdT: the rules with their side conditions told, for printed terms. -/
namespace TD
open PySem L2 PyProof.Rows
/-- the built-in names stand as they are -/
structure Bt (mg : Str → Option Value) : Prop where
  isinstance : mg "isinstance" = none
  int : mg "int" = none
  bool : mg "bool" = none
  str : mg "str" = none
  tuple : mg "tuple" = none
  list : mg "list" = none
  dict : mg "dict" = none
  len : mg "len" = none
  all : mg "all" = none
  any : mg "any" = none
  range : mg "range" = none
  max : mg "max" = none
  min : mg "min" = none
  sum : mg "sum" = none
  sorted : mg "sorted" = none
  enumerate : mg "enumerate" = none
  zip : mg "zip" = none
  repr : mg "repr" = none
  set : mg "set" = none
  ValueError : mg "ValueError" = none
theorem bb_int : bootBuiltins "int" = some (.type "int") := by decide +kernel
theorem bb_bool : bootBuiltins "bool" = some (.type "bool") := by decide +kernel
theorem bb_str : bootBuiltins "str" = some (.type "str") := by decide +kernel
theorem bb_tuple : bootBuiltins "tuple" = some (.type "tuple") := by decide +kernel
theorem bb_list : bootBuiltins "list" = some (.type "list") := by decide +kernel
theorem bb_dict : bootBuiltins "dict" = some (.type "dict") := by decide +kernel
theorem bb_len : bootBuiltins "len" = some (.builtin "len") := by decide +kernel
theorem bb_all : bootBuiltins "all" = some (.builtin "all") := by decide +kernel
theorem bb_any : bootBuiltins "any" = some (.builtin "any") := by decide +kernel
theorem bb_max : bootBuiltins "max" = some (.builtin "max") := by decide +kernel
theorem bb_min : bootBuiltins "min" = some (.builtin "min") := by decide +kernel
section
variable {X : Cx} {a b c e o : Expr} {es : List Expr} {pos p q q1 q2 q3 apos cpos : Pos} {x : Str} {k : Nat} {fa fb fc : S → Ou Ar} {fs : S → Ou (List Ar)} {ff : S → Ou (List D)}
theorem nF (i : Nat) (hN : X.N[i]? = some x := by rfl) (hv : Vis X.env.scope x := by first | exact Or.inl rfl | exact Or.inr (Or.inl rfl) | exact Or.inr (Or.inr rfl)) (hd : (x == ("__debug__" : Str)) = false := by decide) (hcd : (x == ("__classdict__" : Str)) = false := by decide) : PD kF X (.Name x pos) (eVar i) := PD.of_var hN hv hd hcd po_eVar
theorem nA (i : Nat) (hN : X.N[i]? = some x := by rfl) (hv : Vis X.env.scope x := by first | exact Or.inl rfl | exact Or.inr (Or.inl rfl) | exact Or.inr (Or.inr rfl)) (hd : (x == ("__debug__" : Str)) = false := by decide) (hcd : (x == ("__classdict__" : Str)) = false := by decide) : PD kA X (.Name x pos) (aVar i) := PD.of_var hN hv hd hcd po_aVar
theorem nV (i : Nat) (hN : X.N[i]? = some x := by rfl) (hv : Vis X.env.scope x := by first | exact Or.inl rfl | exact Or.inr (Or.inl rfl) | exact Or.inr (Or.inr rfl)) (hd : (x == ("__debug__" : Str)) = false := by decide) (hcd : (x == ("__classdict__" : Str)) = false := by decide) : PD kV X (.Name x pos) (vVar i) := PD.of_var hN hv hd hcd po_vVar
theorem gInt {n : Int} {t : Tok} (hm : X.mg x = some (.int n t)) (hg : Gl X x := by rfl) (hd : (x == ("__debug__" : Str)) = false := by decide) : PD kF X (.Name x pos) (eC (.int n)) := PD.glob (v := .int n) hg hm ⟨t, rfl⟩ (fun _ => rfl) hd
theorem gStr {n : Str} {t : Tok} (hm : X.mg x = some (.str n t)) (hg : Gl X x := by rfl) (hd : (x == ("__debug__" : Str)) = false := by decide) : PD kF X (.Name x pos) (eC (.str n)) := PD.glob (v := .str n) hg hm ⟨t, rfl⟩ (fun _ => rfl) hd
theorem vF {f : S → Ou (D × Bool)} (h : PD kV X e f) : PD kF X e (fun s => frz (f s)) := h.frz
theorem fA {f : S → Ou D} (h : PD kF X e f) : PD kA X e (fun s => toA (f s)) := h.toA
theorem fV {f : S → Ou D} (h : PD kF X e f) : PD kV X e (fun s => toV (f s)) := h.toV
theorem oAdd (ha : PD kA X a fa) (hb : PD kA X b fb) : PD kV X (.BinOp a .Add b pos) (eOp2 addG fa fb) := PD.bin op_addA pr_add ha hb
theorem oSub (ha : PD kA X a fa) (hb : PD kA X b fb) : PD kV X (.BinOp a .Sub b pos) (eOp2 subG fa fb) := PD.bin op_sub pr_sub ha hb
theorem oMul (ha : PD kA X a fa) (hb : PD kA X b fb) : PD kV X (.BinOp a .Mult b pos) (eOp2 mulG fa fb) := PD.bin op_mul pr_mul ha hb
theorem oDiv (ha : PD kA X a fa) (hb : PD kA X b fb) : PD kV X (.BinOp a .FloorDiv b pos) (eOp2 fdivG fa fb) := PD.bin op_fdivW pr_fdiv ha hb
theorem oMod (ha : PD kA X a fa) (hb : PD kA X b fb) : PD kV X (.BinOp a .Mod b pos) (eOp2 modG fa fb) := PD.bin op_mod pr_mod ha hb
theorem oPow (ha : PD kA X a fa) (hb : PD kA X b fb) : PD kV X (.BinOp a .Pow b pos) (eOp2 powG fa fb) := PD.bin op_pow pr_pow ha hb
theorem oEq (hu : X.A.units + 64 < cLine) (ha : PD kA X a fa) (hb : PD kA X b fb) : PD kV X (.Compare a [.Eq] [b] pos) (eOp2 eqG fa fb) := PD.cmp (op_eqA hu) pr_eq ha hb (nomark b)
theorem oNe (hu : X.A.units + 64 < cLine) (ha : PD kA X a fa) (hb : PD kA X b fb) : PD kV X (.Compare a [.NotEq] [b] pos) (eOp2 neG fa fb) := PD.cmp (op_neA hu) pr_ne ha hb (nomark b)
theorem oLt (ha : PD kA X a fa) (hb : PD kA X b fb) : PD kV X (.Compare a [.Lt] [b] pos) (eOp2 ltG fa fb) := PD.cmp op_lt pr_lt ha hb (nomark b)
theorem oLe (ha : PD kA X a fa) (hb : PD kA X b fb) : PD kV X (.Compare a [.LtE] [b] pos) (eOp2 leG fa fb) := PD.cmp op_le pr_le ha hb (nomark b)
theorem oGt (ha : PD kA X a fa) (hb : PD kA X b fb) : PD kV X (.Compare a [.Gt] [b] pos) (eOp2 gtG fa fb) := PD.cmp op_gt pr_gt ha hb (nomark b)
theorem oGe (ha : PD kA X a fa) (hb : PD kA X b fb) : PD kV X (.Compare a [.GtE] [b] pos) (eOp2 geG fa fb) := PD.cmp op_ge pr_ge ha hb (nomark b)
theorem oIn (ha : PD kA X a fa) (hb : PD kA X b fb) (hm : behindInMarks .In b = false := by rfl) : PD kV X (.Compare a [.In] [b] pos) (eOp2 (inG false) fa fb) := PD.cmp op_inA pr_in ha hb hm
theorem oNotIn (ha : PD kA X a fa) (hb : PD kA X b fb) (hm : behindInMarks .NotIn b = false := by rfl) : PD kV X (.Compare a [.NotIn] [b] pos) (eOp2 (inG true) fa fb) := PD.cmp op_notInA pr_notIn ha hb hm
theorem oIs (ha : PD kA X a fa) (hb : PD kA X b fb) : PD kV X (.Compare a [.Is] [b] pos) (eOp2 (isNG false) fa fb) := PD.cmp op_isN pr_isN ha hb (nomark b)
theorem oIsNot (ha : PD kA X a fa) (hb : PD kA X b fb) : PD kV X (.Compare a [.IsNot] [b] pos) (eOp2 (isNG true) fa fb) := PD.cmp op_notN pr_notN ha hb (nomark b)
theorem tEq (hu : X.A.units + 64 < cLine) (ha : PD kA X a fa) (hb : PD kA X b fb) : PTD kB X (.Compare a [.Eq] [b] pos) (fun s => tst (eOp2 eqG fa fb s)) := PTD.cmp (op_eqA hu) pr_eq ha hb (nomark b)
theorem tNe (hu : X.A.units + 64 < cLine) (ha : PD kA X a fa) (hb : PD kA X b fb) : PTD kB X (.Compare a [.NotEq] [b] pos) (fun s => tst (eOp2 neG fa fb s)) := PTD.cmp (op_neA hu) pr_ne ha hb (nomark b)
theorem tLt (ha : PD kA X a fa) (hb : PD kA X b fb) : PTD kB X (.Compare a [.Lt] [b] pos) (fun s => tst (eOp2 ltG fa fb s)) := PTD.cmp op_lt pr_lt ha hb (nomark b)
theorem tLe (ha : PD kA X a fa) (hb : PD kA X b fb) : PTD kB X (.Compare a [.LtE] [b] pos) (fun s => tst (eOp2 leG fa fb s)) := PTD.cmp op_le pr_le ha hb (nomark b)
theorem tGt (ha : PD kA X a fa) (hb : PD kA X b fb) : PTD kB X (.Compare a [.Gt] [b] pos) (fun s => tst (eOp2 gtG fa fb s)) := PTD.cmp op_gt pr_gt ha hb (nomark b)
theorem tGe (ha : PD kA X a fa) (hb : PD kA X b fb) : PTD kB X (.Compare a [.GtE] [b] pos) (fun s => tst (eOp2 geG fa fb s)) := PTD.cmp op_ge pr_ge ha hb (nomark b)
theorem tIn (ha : PD kA X a fa) (hb : PD kA X b fb) (hm : behindInMarks .In b = false := by rfl) : PTD kB X (.Compare a [.In] [b] pos) (fun s => tst (eOp2 (inG false) fa fb s)) := PTD.cmp op_inA pr_in ha hb hm
theorem tNotIn (ha : PD kA X a fa) (hb : PD kA X b fb) (hm : behindInMarks .NotIn b = false := by rfl) : PTD kB X (.Compare a [.NotIn] [b] pos) (fun s => tst (eOp2 (inG true) fa fb s)) := PTD.cmp op_notInA pr_notIn ha hb hm
theorem tIs (ha : PD kA X a fa) (hb : PD kA X b fb) : PTD kB X (.Compare a [.Is] [b] pos) (fun s => tst (eOp2 (isNG false) fa fb s)) := PTD.cmp op_isN pr_isN ha hb (nomark b)
theorem tIsNot (ha : PD kA X a fa) (hb : PD kA X b fb) : PTD kB X (.Compare a [.IsNot] [b] pos) (fun s => tst (eOp2 (isNG true) fa fb s)) := PTD.cmp op_notN pr_notN ha hb (nomark b)
theorem oLeLe (ha : PD kA X a fa) (hb : PD kA X b fb) (hc : PD kA X c fc) (hm : lastMarks [.LtE, .LtE] [b, c] = false := by with_unfolding_all rfl) : PD kV X (.Compare a [.LtE, .LtE] [b, c] pos) (eChain leG leG fa fb fc) := PD.chain op_le op_le pr_le pr_le ha hb hc hm
theorem oLeLt (ha : PD kA X a fa) (hb : PD kA X b fb) (hc : PD kA X c fc) (hm : lastMarks [.LtE, .Lt] [b, c] = false := by with_unfolding_all rfl) : PD kV X (.Compare a [.LtE, .Lt] [b, c] pos) (eChain leG ltG fa fb fc) := PD.chain op_le op_lt pr_le pr_lt ha hb hc hm
theorem tLeLe (ha : PD kA X a fa) (hb : PD kA X b fb) (hc : PD kA X c fc) (hm : lastMarks [.LtE, .LtE] [b, c] = false := by with_unfolding_all rfl) : PTD kB X (.Compare a [.LtE, .LtE] [b, c] pos) (fun s => tst (eChain leG leG fa fb fc s)) := PTD.chain op_le op_le pr_le pr_le ha hb hc hm
theorem tLeLt (ha : PD kA X a fa) (hb : PD kA X b fb) (hc : PD kA X c fc) (hm : lastMarks [.LtE, .Lt] [b, c] = false := by with_unfolding_all rfl) : PTD kB X (.Compare a [.LtE, .Lt] [b, c] pos) (fun s => tst (eChain leG ltG fa fb fc s)) := PTD.chain op_le op_lt pr_le pr_lt ha hb hc hm
theorem tVal {f : S → Ou (D × Bool)} (h : PD kV X e f) (he : ∀ whole, isTrue e X.env whole = (do let v ← whole; standAt e.pos; holding [v] (truthy v)) := by intro _; rfl) : PTD kB X e (fun s => tst (f s)) := PTD.val h he
/-! arguments -/
theorem a0 : PAD kAs X [] (fun s => .ok [] s) := PAD.nil
theorem aC {fr : S → Ou (List Ar)} (ha : PD kA X e fa) (hr : PAD kAs X es fr) (hs : starEach (e :: es) X.env = (false, eval e X.env) :: starEach es X.env := by rfl) : PAD kAs X (e :: es) (aCons fa fr) := PAD.cons ha hr hs
theorem f0 : PAF 0 X [] fNil := PAF.nil
theorem fC {n : Nat} {f : S → Ou D} {fr : S → Ou (List D)} (ha : PD kF X e f) (hr : PAF n X es fr) (hs : starEach (e :: es) X.env = (false, eval e X.env) :: starEach es X.env := by rfl) : PAF (n + 1) X (e :: es) (fCons f fr) := PAF.cons ha hr hs
theorem xTup {k : Nat} {n : Nat} (h : PAF n X es ff) : PD kF X (.Tuple es k pos) (eTup ff) := PD.tup h.pa
theorem xLst {n : Nat} (h : PAF n X es ff) : PD kV X (.List es pos) (eLst ff) := PD.lst h.pa
/-! built-ins -/
theorem cLen (B : Bt X.mg) (ha : PAD kAs X [e] fs) (hg : Gl X "len" := by rfl) (h1 : starEach [e] X.env = (false, eval e X.env) :: starEach [] X.env := by rfl) (h2 : (backTo pos (starEach [] X.env)).any (·.1) = false := by rfl) : PD kV X (.Call (.Name "len" p) [e] [] pos) (eOpN lenG fs) := PD.callB call_len pr_len hg B.len bb_len ha (by decide) (by decide) h1 h2
theorem cAll (B : Bt X.mg) (hc : X.calm = true) (ha : PAD kAs X [e] fs) (hg : Gl X "all" := by rfl) (h1 : starEach [e] X.env = (false, eval e X.env) :: starEach [] X.env := by rfl) (h2 : (backTo pos (starEach [] X.env)).any (·.1) = false := by rfl) : PD kV X (.Call (.Name "all" p) [e] [] pos) (eOpN allG fs) := PD.callB (cr_all hc) pr_all hg B.all bb_all ha (by decide) (by decide) h1 h2
theorem cAny (B : Bt X.mg) (hc : X.calm = true) (ha : PAD kAs X [e] fs) (hg : Gl X "any" := by rfl) (h1 : starEach [e] X.env = (false, eval e X.env) :: starEach [] X.env := by rfl) (h2 : (backTo pos (starEach [] X.env)).any (·.1) = false := by rfl) : PD kV X (.Call (.Name "any" p) [e] [] pos) (eOpN anyG fs) := PD.callB (cr_any hc) pr_any hg B.any bb_any ha (by decide) (by decide) h1 h2
theorem cMax (B : Bt X.mg) (hc : X.calm = true) (ha : PAD kAs X [a, b] fs) (hg : Gl X "max" := by rfl) (h1 : starEach [a, b] X.env = (false, eval a X.env) :: starEach [b] X.env := by rfl) (h2 : (backTo pos (starEach [b] X.env)).any (·.1) = false := by rfl) : PD kV X (.Call (.Name "max" p) [a, b] [] pos) (eOpN maxG fs) := PD.callB (call_max2 hc) pr_max hg B.max bb_max ha (by decide) (by decide) h1 h2
theorem cMin (B : Bt X.mg) (hc : X.calm = true) (ha : PAD kAs X [a, b] fs) (hg : Gl X "min" := by rfl) (h1 : starEach [a, b] X.env = (false, eval a X.env) :: starEach [b] X.env := by rfl) (h2 : (backTo pos (starEach [b] X.env)).any (·.1) = false := by rfl) : PD kV X (.Call (.Name "min" p) [a, b] [] pos) (eOpN minG fs) := PD.callB (call_min2 hc) pr_min hg B.min bb_min ha (by decide) (by decide) h1 h2
theorem cList (B : Bt X.mg) (ha : PAD kAs X [e] fs) (hg : Gl X "list" := by rfl) (h1 : starEach [e] X.env = (false, eval e X.env) :: starEach [] X.env := by rfl) (h2 : (backTo pos (starEach [] X.env)).any (·.1) = false := by rfl) : PD kV X (.Call (.Name "list" p) [e] [] pos) (eOpN listG fs) := PD.callTy call_list_of pr_list hg B.list bb_list ha (by decide) (by decide) h1 h2
theorem cTuple (B : Bt X.mg) (ha : PAD kAs X [e] fs) (hg : Gl X "tuple" := by rfl) (h1 : starEach [e] X.env = (false, eval e X.env) :: starEach [] X.env := by rfl) (h2 : (backTo pos (starEach [] X.env)).any (·.1) = false := by rfl) : PD kV X (.Call (.Name "tuple" p) [e] [] pos) (eOpN tupleG fs) := PD.callTy call_tuple_of pr_tuple hg B.tuple bb_tuple ha (by decide) (by decide) h1 h2
theorem cStr (B : Bt X.mg) (ha : PAD kAs X [e] fs) (hg : Gl X "str" := by rfl) (h1 : starEach [e] X.env = (false, eval e X.env) :: starEach [] X.env := by rfl) (h2 : (backTo pos (starEach [] X.env)).any (·.1) = false := by rfl) : PD kV X (.Call (.Name "str" p) [e] [] pos) (eOpN strG fs) := PD.callTy call_strA pr_str hg B.str bb_str ha (by decide) (by decide) h1 h2
theorem cInt (B : Bt X.mg) (ha : PAD kAs X [e] fs) (hg : Gl X "int" := by rfl) (h1 : starEach [e] X.env = (false, eval e X.env) :: starEach [] X.env := by rfl) (h2 : (backTo pos (starEach [] X.env)).any (·.1) = false := by rfl) : PD kV X (.Call (.Name "int" p) [e] [] pos) (eOpN intG1 fs) := PD.callTy call_intA pr_intC hg B.int bb_int ha (by decide) (by decide) h1 h2
theorem cIsi {U : String} {xU : Str} (B : Bt X.mg) (hmU : X.mg xU = none) (hvU : bootBuiltins xU = some (.type U)) (ha : PD kA X e fa) (hU : U ∈ ["bool", "int", "str", "tuple", "list", "dict"] := by decide) (hg : Gl X "isinstance" := by rfl) (hgU : Gl X xU := by rfl) (nU : xU ≠ "__name__" := by decide) (dU : (xU == ("__debug__" : Str)) = false := by decide)
    (h1 : starEach [e, .Name xU q] X.env = (false, eval e X.env) :: starEach [.Name xU q] X.env := by rfl) (h2 : (backTo pos (starEach [.Name xU q] X.env)).any (·.1) = false := by rfl) (h3 : starEach [.Name xU q] X.env = (false, eval (.Name xU q) X.env) :: starEach [] X.env := by rfl) :
    PD kV X (.Call (.Name "isinstance" p) [e, .Name xU q] [] pos) (eIsi [U] fa) := PD.isi hg B.isinstance ha hgU hmU hvU hU nU dU h1 h2 h3
theorem cIsi2 {U1 U2 : String} {xU1 xU2 : Str} (B : Bt X.mg) (hm1 : X.mg xU1 = none) (hv1 : bootBuiltins xU1 = some (.type U1)) (hm2 : X.mg xU2 = none) (hv2 : bootBuiltins xU2 = some (.type U2)) (ha : PD kA X e fa) (hU1 : U1 ∈ ["bool", "int", "str", "tuple", "list", "dict"] := by decide) (hU2 : U2 ∈ ["bool", "int", "str", "tuple", "list", "dict"] := by decide)
    (hg : Gl X "isinstance" := by rfl) (hg1 : Gl X xU1 := by rfl) (n1 : xU1 ≠ "__name__" := by decide) (d1 : (xU1 == ("__debug__" : Str)) = false := by decide) (hg2 : Gl X xU2 := by rfl) (n2 : xU2 ≠ "__name__" := by decide) (d2 : (xU2 == ("__debug__" : Str)) = false := by decide)
    (h1 : starEach [e, .Tuple [.Name xU1 q1, .Name xU2 q2] k q3] X.env = (false, eval e X.env) :: starEach [.Tuple [.Name xU1 q1, .Name xU2 q2] k q3] X.env := by rfl) (h2 : (backTo pos (starEach [.Tuple [.Name xU1 q1, .Name xU2 q2] k q3] X.env)).any (·.1) = false := by rfl)
    (h3 : starEach [.Tuple [.Name xU1 q1, .Name xU2 q2] k q3] X.env = (false, eval (.Tuple [.Name xU1 q1, .Name xU2 q2] k q3) X.env) :: starEach [] X.env := by rfl)
    (h4 : starEach [.Name xU1 q1, .Name xU2 q2] X.env = (false, eval (.Name xU1 q1) X.env) :: starEach [.Name xU2 q2] X.env := by rfl) (h5 : starEach [.Name xU2 q2] X.env = (false, eval (.Name xU2 q2) X.env) :: starEach [] X.env := by rfl) :
    PD kV X (.Call (.Name "isinstance" p) [e, .Tuple [.Name xU1 q1, .Name xU2 q2] k q3] [] pos) (eIsi [U1, U2] fa) := PD.isi2 hg B.isinstance ha hg1 hm1 hv1 hU1 n1 d1 hg2 hm2 hv2 hU2 n2 d2 h1 h2 h3 h4 h5
theorem xIx (ha : PD kA X a fa) (hb : PD kA X b fb) (hs : PlainIx b := by exact fun _ _ => rfl) : PD kV X (.Subscript a b pos) (eOp2 ixG fa fb) := PD.ix ix_seq pr_ix ha hb hs
/-! methods -/
theorem mJoin (ho : PD kA X o fa) (ha : PAD kAs X [e] fs) (hbase : attributeBase o "join" X.env (eval o X.env) = eval o X.env := by rfl)
    (hfew : ((backTo cpos (starEach [e] X.env)).all (fun x => !x.1) && (backToKw cpos (keywordEach [] X.env)).all (fun x => x.1.isSome) && decide ([e].length + ([] : List Keyword).length + (if ([] : List Keyword).isEmpty then 0 else 1) < 30)) = true := by rfl)
    (hline : (apos.endLine == cpos.line) = true := by rfl) (hs : starEach [e] X.env = (false, eval e X.env) :: starEach [] X.env := by rfl) (hplain : (backTo cpos (starEach [] X.env)).any (·.1) = false := by rfl) :
    PD kV X (.Call (.Attribute o "join" apos) [e] [] cpos) (eMeth "str" joinG fa fs) := PD.meth F.plainAttrs_str F.slot_str_join F.type_str_join mt_join (by decide) pr_join ho ha hbase hfew hline hs hplain
theorem mSplit (ho : PD kA X o fa) (ha : PAD kAs X [e] fs) (hbase : attributeBase o "split" X.env (eval o X.env) = eval o X.env := by rfl)
    (hfew : ((backTo cpos (starEach [e] X.env)).all (fun x => !x.1) && (backToKw cpos (keywordEach [] X.env)).all (fun x => x.1.isSome) && decide ([e].length + ([] : List Keyword).length + (if ([] : List Keyword).isEmpty then 0 else 1) < 30)) = true := by rfl)
    (hline : (apos.endLine == cpos.line) = true := by rfl) (hs : starEach [e] X.env = (false, eval e X.env) :: starEach [] X.env := by rfl) (hplain : (backTo cpos (starEach [] X.env)).any (·.1) = false := by rfl) :
    PD kV X (.Call (.Attribute o "split" apos) [e] [] cpos) (eMeth "str" splitG fa fs) := PD.meth F.plainAttrs_str F.slot_str_split F.type_str_split mt_split (by decide) pr_split ho ha hbase hfew hline hs hplain
theorem mAppend {n : Nat} (ho : PD kA X o fa) (ha : PAF n X [e] ff) (hbase : attributeBase o "append" X.env (eval o X.env) = eval o X.env := by rfl)
    (hfew : ((backTo cpos (starEach [e] X.env)).all (fun x => !x.1) && (backToKw cpos (keywordEach [] X.env)).all (fun x => x.1.isSome) && decide ([e].length + ([] : List Keyword).length + (if ([] : List Keyword).isEmpty then 0 else 1) < 30)) = true := by rfl)
    (hline : (apos.endLine == cpos.line) = true := by rfl) (hs : starEach [e] X.env = (false, eval e X.env) :: starEach [] X.env := by rfl) (hplain : (backTo cpos (starEach [] X.env)).any (·.1) = false := by rfl) :
    PD kF X (.Call (.Attribute o "append" apos) [e] [] cpos) (eMut "list" appendG fa ff) := PD.mut F.plainAttrs_list F.slot_list_append F.type_list_append mt_append (by decide) pr_append ho ha.pa hbase hfew hline hs hplain
theorem mPopAt {n : Nat} (ho : PD kA X o fa) (ha : PAF n X [e] ff) (hbase : attributeBase o "pop" X.env (eval o X.env) = eval o X.env := by rfl)
    (hfew : ((backTo cpos (starEach [e] X.env)).all (fun x => !x.1) && (backToKw cpos (keywordEach [] X.env)).all (fun x => x.1.isSome) && decide ([e].length + ([] : List Keyword).length + (if ([] : List Keyword).isEmpty then 0 else 1) < 30)) = true := by rfl)
    (hline : (apos.endLine == cpos.line) = true := by rfl) (hs : starEach [e] X.env = (false, eval e X.env) :: starEach [] X.env := by rfl) (hplain : (backTo cpos (starEach [] X.env)).any (·.1) = false := by rfl) :
    PD kF X (.Call (.Attribute o "pop" apos) [e] [] cpos) (eMut "list" popAtG fa ff) := PD.mut F.plainAttrs_list F.slot_list_pop F.type_list_pop mt_popAt (by decide) pr_popAt ho ha.pa hbase hfew hline hs hplain
end
/-! statements -/
section
variable {X : Cx} {a b c e o tg iter : Expr} {es : List Expr} {pos pos' p q : Pos} {x : Str} {body : List Stmt} {f : S → OutS}
theorem sSetN {fe : S → Ou (D × Bool)} (i : Nat) (hN : X.N.Nodup) (he : PD kV X e fe) (hi : X.N[i]? = some x := by rfl) (hx : Loc X.env.scope x := by first | exact Or.inl rfl | exact Or.inr rfl) (hs : swapsWith e (some (.Name x pos')) pos.line X.env = pure false := by rfl)
    (hf : X.fn x = true ∨ X.env.scope.names.lookup x = some .local := by first | exact .inl rfl | exact .inr rfl) : PSD X (.Assign [.Name x pos'] e pos) (sSet i fe) := PSD.set hN hi hx he hs hf
theorem sExprN {α : Type} {k : Rk α V} {fe : S → Ou α} (he : PD k X e fe) (hs : swapsWith e none pos.line X.env = pure false := by rfl) : PSD X (.Expr e pos) (sExpr fe) := PSD.expr he hs
theorem gN (i : Nat) (hN : X.N.Nodup) (hi : X.N[i]? = some x := by rfl) (hx : Loc X.env.scope x := by first | exact Or.inl rfl | exact Or.inr rfl) (hf : X.fn x = true ∨ X.env.scope.names.lookup x = some .local := by first | exact .inl rfl | exact .inr rfl) : PGD X (.Name x pos) (gName i) (gtName i) [i] := PGD.name hN hi hx hf
theorem gC {m : Tg} {ms : List D → S → Option S} {vs ws : List Nat} {g : TG} {gs : TGs} (h1 : PGD X e g m vs) (h2 : PGsD X es gs ms ws) (hs : (assignEach (e :: es) X.env).map (·.2) = assign e X.env :: (assignEach es X.env).map (·.2) := by rfl) : PGsD X (e :: es) (gCons g gs) (gtCons m ms) (vs ++ ws) := PGsD.cons h1 h2 hs
theorem gT {k n : Nat} {ms : List D → S → Option S} {vs : List Nat} {gs : TGs} (hc : X.calm = true) (h : PGsD X es gs ms vs) (hn : (assignEach es X.env).length = n := by rfl) (hst : (assignEach es X.env).findIdx? (·.1) = none := by rfl) : PGD X (.Tuple es k pos) (gTup X.K n gs) (gtTup n ms) vs := PGD.tup hc h hn hst
theorem iRange {fs : S → Ou (List Ar)} (B : Bt X.mg) (ha : PAD kAs X [a] fs) (hg : Gl X "range" := by rfl) (hs : starEach [a] X.env = [(false, eval a X.env)] := by rfl) : PID X tg (.Call (.Name "range" p) [a] [] pos) (iRng1 fs) := PID.rng1 hg B.range ha hs
theorem sForN {it : S → Ou Wk} {m : Tg} {g : TG} {vs : List Nat} (hp : PassesOwn (model X.prog X.w) X.A X.env X.xe) (hc : X.calm = true) (hi : PID X tg iter it) (hg : PGD X tg g m vs) (hb : PSsD X body f) (hs : ∀ x, foldedSetIterable iter X.env x = pure x := by intro _; rfl) : PSD X (.For tg iter body [] pos) (sFor it m f) := PSD.for hp hc hi hg hb hs
/-- a tuple's parts into names -/
theorem PSD.unp {m : Tg} {g : TG} {vs : List Nat} {fe : S → Ou D} (he : PD kF X e fe) (hg : PGD X tg g m vs) (hs : swapsWithSole [tg] e pos.line X.env = pure false := by rfl) (hw : swappedStores [tg] e X.env = pure none := by rfl) (h1 : List.map (·.2) (assignEach [tg] X.env) = [assign tg X.env] := by rfl) :
    PSD X (.Assign [tg] e pos) (fun s => (fe s).thn fun d s1 => match m d s1 with
      | some s2 => .nx s2
      | none => .bad) := fun Wx tk => by
  obtain ⟨pg, ok⟩ := hg
  refine PS.imp (ps_asg (he Wx tk) pg hs hw h1) fun D t H ⟨W, s, o, R, q⟩ => ⟨W, s, o, R, PoS.thn q fun d v s1 W1 H1 st ln R1 rv q1 => ?_⟩
  split at q1
  · rename_i s2 em
    exact ok.run W1 s1 s2 t H1 d v _ (o.le st.le).K R1 rv em fun t2 R2 ow ln2 _ _ _ => q1 W1 t2 H1 (Step.refl.ow (fun _ => .rfl) ow) ln2 R2
  · exact False.elim q1
end
end TD

end
section
set_option maxRecDepth 100000
set_option maxHeartbeats 4000000
/-! TdU: enumerate and zip over frozen lists, tuples, texts. -/
namespace TD
open PySem L2 PyProof.Rows

/-- what is drawn from -/
inductive Sk where
  | l (a : Addr) | t (a : Addr) | s (x : Str)
def Sk.ad : Sk → List Addr
  | .l a => [a]
  | .t a => [a]
  | .s _ => []
def signsV (x : Str) : List V := x.cps.toList.map fun c => .str ⟨#[c]⟩
def Sk.at_ (K : PySem.W.Frag) (H : Hp) (xs : List V) : Sk → Prop
  | .l a => SqL K H a xs
  | .t a => SqT K H a xs
  | .s x => xs = signsV x
def Sk.it (h : Heap) (it : Addr) (i : Nat) : Sk → Prop
  | .l a => h.IsListIter it a i
  | .t a => h.IsTupleIter it a i
  | .s x => ∃ t, h.IsStrIter it (strIterType x) x t i
def Sk.v : Sk → Value → Prop
  | .l a, v => v = .ref a
  | .t a, v => v = .ref a
  | .s x, v => ∃ t, v = .str x t
/-- drawing from it -/
structure SkD (P : Program) (w : World) (A : Around) (k : Sk) (it : Addr) (h : Heap) (xs : List V) (i : Nat) (Pv : Nat → Value → Prop) (St : Nat → Heap → Prop) : Prop where
  dr : Draws P w A it (it :: k.ad) xs.length Pv St
  st : St i h
  val : ∀ j v, Pv j v → ∃ x, xs[j]? = some x ∧ RelV x v
  it_ : ∀ j h', St j h' → k.it h' it j
theorem vals_get {xs : List V} {us : List Value} (r : Vals xs us) {j : Nat} {v : Value} (h : us[j]? = some v) : ∃ x, xs[j]? = some x ∧ RelV x v := by
  have hj : j < us.length := (List.getElem?_eq_some_iff.mp h).1
  have hl : j < xs.length := by rw [r.length]; exact hj
  obtain ⟨u, h1, h2⟩ := r.get (List.getElem?_eq_getElem hl)
  rw [h] at h1
  cases h1
  exact ⟨_, List.getElem?_eq_getElem hl, h2⟩
theorem sk_draws {X : Cx} {pins : List (Addr × Obj)} {σ : L2.St} {H : Hp} {s : Shared} {k : Sk} {it : Addr} {xs : List V} {i : Nat} (I : Inv X pins σ H s) (hc : X.calm = true) (ha : k.at_ X.K H xs) (hi : k.it s.heap it i) (hn : it ∉ k.ad) : ∃ Pv St, SkD X.prog X.w X.A.in1 k it s.heap xs i Pv St := by
  cases k with
  | l a =>
    obtain ⟨its, rv, p, _⟩ := I.list ha
    refine ⟨fun j v => its.toArray[j]? = some v, fun j h' => h'.IsListIter it a j ∧ h'.IsList a its.toArray, ⟨?_, ⟨hi, p.isList⟩, fun j v h => vals_get rv (by simpa using h), fun j h' q => And.left q⟩⟩
    have e : xs.length = its.toArray.size := by rw [rv.length]; simp
    rw [e]
    exact Draws.list (A := X.A.in1) (I.ok.hd hc) it a (fun z => hn (by rw [← z]; exact List.mem_singleton.mpr rfl)) its.toArray
  | t a =>
    obtain ⟨its, rv, p, _⟩ := I.tuple ha
    obtain ⟨o, ho, hcl, n, hd⟩ := p
    refine ⟨fun j v => its.toArray[j]? = some v, fun j h' => h'.IsTupleIter it a j ∧ h'.IsTuple a its.toArray, ⟨?_, ⟨hi, ⟨o, ho, hcl, n, hd⟩⟩, fun j v h => vals_get rv (by simpa using h), fun j h' q => And.left q⟩⟩
    have e : xs.length = its.toArray.size := by rw [rv.length]; simp
    rw [e]
    exact Draws.tuple (A := X.A.in1) (I.ok.hd hc) it a (fun z => hn (by rw [← z]; exact List.mem_singleton.mpr rfl)) its.toArray
  | s x =>
    have ha : xs = signsV x := ha
    subst ha
    obtain ⟨t, hi⟩ := hi
    refine ⟨fun j v => ∃ c u, x.cps[j]? = some c ∧ v = .str ⟨#[c]⟩ u, fun j h' => h'.IsStrIter it (strIterType x) x t j, ⟨?_, hi, fun j v h => ?_, fun j h' q => ⟨t, q⟩⟩⟩
    · have e : (signsV x).length = x.cps.size := by unfold signsV; simp
      rw [e]
      exact Draws.text (A := X.A.in1) (I.ok.hd hc) it x t
    · obtain ⟨c, u, h1, h2⟩ := h
      refine ⟨.str ⟨#[c]⟩, ?_, ⟨u, h2⟩⟩
      unfold signsV
      rw [List.getElem?_map, Array.getElem?_toList, h1]
      rfl
theorem Sk.it_same {k : Sk} {h h' : Heap} {it : Addr} {i : Nat} (q : k.it h it i) (e : ∀ o, h.get? it = some o → h'.get? it = some o) : k.it h' it i := by
  cases k with
  | l a => exact Heap.IsListIter.at q e
  | t a => exact Heap.IsTupleIter.at q e
  | s x =>
    obtain ⟨t, o, h1, h2⟩ := q
    exact ⟨t, o, e o h1, h2⟩
theorem Sk.it_obj {k : Sk} {h : Heap} {it : Addr} {i : Nat} (q : k.it h it i) : ∃ o, h.get? it = some o ∧ ∀ v, o.data ≠ .cell v := by
  cases k with
  | l a => obtain ⟨o, h1, _, h2⟩ := q; exact ⟨o, h1, fun v z => by rw [h2] at z; cases z⟩
  | t a => obtain ⟨o, h1, _, h2⟩ := q; exact ⟨o, h1, fun v z => by rw [h2] at z; cases z⟩
  | s x => obtain ⟨t, o, h1, _, h2⟩ := q; exact ⟨o, h1, fun v z => by rw [h2] at z; cases z⟩

theorem sk_inj {X : Cx} {pins : List (Addr × Obj)} {σ : L2.St} {H : Hp} {s : Shared} {k : Sk} {xs ys : List V} (I : Inv X pins σ H s) (h : k.at_ X.K H xs) (h' : k.at_ X.K H ys) : xs = ys := by
  cases k with
  | l a => exact I.list_inj h h'
  | t a => exact I.tuple_inj h h'
  | s x =>
    have h : xs = _ := h
    exact h.trans (Eq.symm h')
/-! ### its iterator begins -/
theorem sk_begins {X : Cx} {pins : List (Addr × Obj)} {σ : L2.St} {H : Hp} {s : Shared} {k : Sk} {v : Value} {xs : List V} (I : Inv X pins σ H s) (ha : k.at_ X.K H xs) (hv : k.v v) :
    ∃ o G, Begins v o G ∧ G s.heap ∧ (∀ b ∈ k.ad, b < s.heap.objs.size) ∧ ∀ h it, h.get? it = some o → k.it h it 0 := by
  cases k with
  | l a =>
    cases hv
    obtain ⟨its, rv, p, _⟩ := I.list ha
    exact ⟨_, _, begins_list a its.toArray, p.isList, fun b hb => by rw [List.mem_singleton.mp hb]; exact p.lt, fun h it q => ⟨_, q, rfl, rfl⟩⟩
  | t a =>
    cases hv
    obtain ⟨its, rv, p, _⟩ := I.tuple ha
    obtain ⟨o, ho, hcl, n, hd⟩ := p
    exact ⟨_, _, begins_tuple a its.toArray, ⟨o, ho, hcl, n, hd⟩, fun b hb => by rw [List.mem_singleton.mp hb]; exact Heap.lt_size ho, fun h it q => ⟨_, q, rfl, rfl⟩⟩
  | s x =>
    obtain ⟨t, rfl⟩ := hv
    exact ⟨_, _, begins_text x t, trivial, (fun b hb => nomatch hb), fun h it q => ⟨t, _, q, rfl, rfl⟩⟩
set_option maxHeartbeats 1000000 in
theorem meets_enum1 {v : Value} {o : Obj} {G : Heap → Prop} (B : Begins v o G) :
    Meets (Builtin.«enumerate.__new__» ⟨[.type "enumerate", v], []⟩) (fun _ R s => G s.heap ∧ R (.ok (.ret (.ref (s.heap.push o).objs.size)))
        { s with heap := (s.heap.push o).push { cls := .type "enumerate", data := .fields #[.none, .bool false, .ref s.heap.objs.size, rawInt 0, .none, .none] } }) :=
  .of_wp fun P0 w0 A0 R s hh => by
    obtain ⟨hp, g, d, tk, os⟩ := s
    obtain ⟨h1, hh⟩ := hh
    have hsb := sub_enumerate
    have q1 : ∀ {A' : Around} {E : Value → Shared → Prop} {Q : Value → Shared → Prop}, Q (.ref hp.objs.size) ⟨hp.push o, g, d, tk, os⟩ → wpAny (model P0 w0) A' (pyIter v) Q E ⟨hp, g, d, tk, os⟩ := fun q => B.iter P0 w0 _ _ ⟨hp, g, d, tk, os⟩ _ h1 q
    wp_walk using q1
    refine wpAny_stack_any fun stk => wpAny_pure ?_
    split
    · rename_i c _ _ _ _ _
      cases (c == Value.type "enumerate") <;> (wp_walk using q1; exact ⟨_, rfl, hh⟩)
    · wp_walk using q1
      exact ⟨_, rfl, hh⟩
theorem enum1_begins {P0 : Program} {w0 : World} {A0 : Around} {E : Value → Shared → Prop} {s : Shared} {v : Value} {o : Obj} {G : Heap → Prop} {Q : Value → Shared → Prop} (B : Begins v o G) (h1 : G s.heap)
    (hh : ∀ h', IsEnum h' (s.heap.objs.size + 1) s.heap.objs.size 0 .none → h'.get? s.heap.objs.size = some o → (∀ b ob, s.heap.get? b = some ob → h'.get? b = some ob) → Q (.ref (s.heap.objs.size + 1)) { s with heap := h' }) :
    wpAny (model P0 w0) A0 (call (.type "enumerate") [v]) Q E s := by
  refine callType_new F.called_enumerate (by decide) (F.typeCall_enumerate_1 _) (F.newCall_enumerate_1 _) (fun obj => F.args_object_init_2 obj _) F.entry_enumerate_new (meets_enum1 B) ⟨h1, ?_⟩
  have hz : (s.heap.push o).objs.size = s.heap.objs.size + 1 := Heap.size_push ..
  have he := Heap.get?_push_size (s.heap.push o) (o := { cls := .type "enumerate", data := .fields #[.none, .bool false, .ref s.heap.objs.size, rawInt 0, .none, .none] }) rfl
  show _ ∧ _
  rw [hz] at he ⊢
  exact ⟨⟨_, he, rfl⟩, hh _ he (Heap.get?_push_of_some _ (Heap.get?_push_size _ B.free)) fun b ob z => Heap.get?_push_of_some _ (Heap.get?_push_of_some _ z)⟩

/-! ### enumerate -/
def ItE (K : PySem.W.Frag) (k : Sk) : It :=
  ⟨fun i H => ∃ xs, k.at_ K H xs ∧ i < xs.length, fun i H v H' => ∃ T x, v = .ref T ∧ H T = none ∧ H' = upd H T (.tup [.int (i : Nat), x]) ∧ ∀ xs, k.at_ K H xs → xs[i]? = some x, fun i H => ∃ xs, k.at_ K H xs ∧ xs.length = i⟩
theorem turn_enumS {P : Program} {w : World} {K : PySem.W.Frag} {elts : List Expr} {kk : Nat} {tpos : Pos} (k : Sk) (e it : Addr) (hei : e ≠ it) (hek : e ∉ k.ad) (hik : it ∉ k.ad) :
    Turn P w K (.Tuple elts kk tpos) (ItE K k) [e, it] e (fun i h => (∃ old, IsEnum h e it ((i : Nat) : Int) old) ∧ k.it h it i) where
  mem := List.mem_cons_self ..
  obj := fun i h st b hb => by
    obtain ⟨⟨old, he⟩, hi⟩ := st
    rcases List.mem_cons.mp hb with rfl | hb
    · exact ⟨_, he, fun v q => nomatch q⟩
    · rw [List.mem_singleton.mp hb]
      exact Sk.it_obj (k := k) hi
  keep := fun i h h' st q => let ⟨⟨old, he⟩, hi⟩ := st; ⟨⟨old, q e (List.mem_cons_self ..) _ he⟩, Sk.it_same (k := k) hi fun o z => q it (by simp) o z⟩
  item := by
    intro X hP hw hK hc i pins s σ H E I hf st hg
    subst hP hw hK
    obtain ⟨⟨old, he⟩, hit⟩ := st
    obtain ⟨xs, hq, hx⟩ := hg
    obtain ⟨Pv, St, D⟩ := sk_draws I hc hq hit hik
    have hel : e < s.heap.objs.size := Heap.lt_size he
    have hil : it < s.heap.objs.size := by obtain ⟨o, q, _⟩ := Sk.it_obj (k := k) hit; exact Heap.lt_size q
    have hef : e ∉ it :: k.ad := fun z => (List.mem_cons.mp z).elim hei hek
    refine wpAny_pyNext_enum_itemD D.dr he D.st hx hei hef fun u h' tk hu ho hst hT hsz hk => ?_
    obtain ⟨x, ex, ru⟩ := D.val _ _ hu
    refine ⟨_, rfl, wpAny_letOwnedTupleGo_enum (s := { s with heap := h', toks := tk + 1 }) ho fun h'' he' sb => ?_⟩
    have hT2 : h''.get? s.heap.objs.size = some { cls := .type "tuple", data := .seq #[.int i tk, u] } := (sb.2 _ (Nat.ne_of_gt hel)).trans hT
    have new : ObjOk X.prog X.w (upd H s.heap.objs.size (.tup [.int (i : Nat), x])) h'' s.heap.objs.size (.tup [.int (i : Nat), x]) :=
      ⟨by show 2 ≤ sizeLine; decide, [.int i tk, u], .cons ⟨_, rfl⟩ (.cons ru .nil), ⟨_, hT2, rfl, _, rfl⟩⟩
    have I1 : Inv X pins σ (upd H s.heap.objs.size (.tup [.int (i : Nat), x])) { s with heap := h'', toks := tk + 1 } :=
      I.turnedNew (ch := [e, it]) (fun b ob hb q => (sb.2 b (fun z => hb (by simp [z]))).trans (hk b ob (fun z => hb (by simp [z])) (fun z => hb (by simp [z])) q)) hf (Nat.le_refl _) new
    refine ⟨.ref s.heap.objs.size, _, I1, rfl, ⟨_, x, rfl, I.hok.fresh (Nat.le_refl _), rfl, fun ys hy => by rw [sk_inj I hy hq]; exact ex⟩, ⟨⟨u, ?_⟩, Sk.it_same (k := k) (D.it_ _ _ hst) fun o q => (sb.2 it (Ne.symm hei)).trans q⟩, fun b hb => ?_⟩
    · rw [show ((i + 1 : Nat) : Int) = (i : Int) + 1 by omega]
      exact he'
    · have hb' : b < s.heap.objs.size := by
        rcases List.mem_cons.mp hb with rfl | hb
        · exact hel
        · rw [List.mem_singleton.mp hb]
          exact hil
      rw [upd_ne (Nat.ne_of_lt hb')]
      exact (hf b hb).1
  done := by
    intro X hP hw hK hc i pins s σ H E I hf st hg
    subst hP hw hK
    obtain ⟨⟨old, he⟩, hit⟩ := st
    obtain ⟨xs, hq, hx⟩ := hg
    subst hx
    obtain ⟨Pv, St, D⟩ := sk_draws I hc hq hit hik
    obtain ⟨f0, f1, f2, f3, f4, f5⟩ := hf it (by simp)
    exact wpAny_pyNext_enum_endD D.dr he D.st fun h' eb => ⟨rfl, I.turned (t' := s.toks) (fun b o hb q => eb b o hb q) f0 f1 f3 f4 f5⟩
  self := fun A i s Q E st h => let ⟨⟨_, he⟩, _⟩ := st; wpAny_pyIter_enum he h
theorem pi_enumS {X : Cx} {e : Expr} {ta : TA} {p pos tpos : Pos} {elts : List Expr} {kk : Nat} (hg : Gl X "enumerate") (hm : X.mg "enumerate" = none) (ha : PA X [e] ta) (hs : starEach [e] X.env = [(false, eval e X.env)]) :
    PI X (.Tuple elts kk tpos) (.Call (.Name "enumerate" p) [e] [] pos) (fun σ H R => ta σ H fun vs H1 => ∃ (k : Sk) (v : V) (xs : List V), vs = [v] ∧ (∀ u, RelV v u → k.v u) ∧ k.at_ X.K H1 xs ∧ R (ItE X.K k) H1) := by
  refine ⟨fun pins s σ H R I h => ?_⟩
  refine Call_ (ld_blt I hg hm boot_enumerate (PyProof.Rows.callWith_type1 (thn (ha.run pos pins s σ H _ I h) fun us s1 ⟨vs, H1, I1, r1, q1⟩ => ?_) hs rfl))
  obtain ⟨k, v, xs, ex, hv, hq, q⟩ := q1
  subst ex
  cases r1 with
  | cons r rr =>
    cases rr
    obtain ⟨o, G, B, hG, had, hit⟩ := sk_begins I1 hq (hv _ r)
    refine enum1_begins B hG fun h' he ho hk => wpAny_pyIter_enum he ?_
    have I2 : Inv X pins σ H1 { s1 with heap := h' } := I1.kept (t' := s1.toks) hk
    refine ⟨s1.heap.objs.size + 1, [s1.heap.objs.size + 1, s1.heap.objs.size], _, _, H1, rfl, I2, turn_enumS k (s1.heap.objs.size + 1) s1.heap.objs.size (Nat.succ_ne_self _) (fun z => absurd (had _ z) (Nat.not_lt.mpr (Nat.le_succ _))) (fun z => absurd (had _ z) (Nat.lt_irrefl _)), ⟨⟨.none, he⟩, hit _ _ ho⟩, fun b hb => ?_, q⟩
    have hle : s1.heap.objs.size ≤ b := by
      rcases List.mem_cons.mp hb with rfl | hb
      · exact Nat.le_succ _
      · rw [List.mem_singleton.mp hb]
        exact Nat.le_refl _
    exact I1.fpOk hle (I1.hok.fresh hle)
end TD

end
section
set_option maxRecDepth 100000
set_option maxHeartbeats 4000000
/-! TdV: zip over two; the walks' mirrors. -/
namespace TD
open PySem L2 PyProof.Rows

def ItZ (K : PySem.W.Frag) (k1 k2 : Sk) : It :=
  ⟨fun i H => ∃ xs ys, k1.at_ K H xs ∧ k2.at_ K H ys ∧ i < xs.length ∧ i < ys.length,
   fun i H v H' => ∃ T x y, v = .ref T ∧ H T = none ∧ H' = upd H T (.tup [x, y]) ∧ (∀ xs, k1.at_ K H xs → xs[i]? = some x) ∧ ∀ ys, k2.at_ K H ys → ys[i]? = some y,
   fun i H => ∃ xs ys, k1.at_ K H xs ∧ k2.at_ K H ys ∧ i ≤ xs.length ∧ i ≤ ys.length ∧ (i = xs.length ∨ i = ys.length)⟩
theorem turn_zipS {P : Program} {w : World} {K : PySem.W.Frag} {elts : List Expr} {kk : Nat} {tpos : Pos} (k1 k2 : Sk) {z TI TO i1 i2 : Addr} (Z : ZipSep2 z TI TO i1 i2 (i1 :: k1.ad) (i2 :: k2.ad)) (h1 : i1 ∉ k1.ad) (h2 : i2 ∉ k2.ad) :
    Turn P w K (.Tuple elts kk tpos) (ItZ K k1 k2) [z, TI, TO, i1, i2] z (fun i h => IsZip h z TI TO .none ∧ IsTupOf2 h TI (.ref i1) (.ref i2) ∧ (∃ x y, IsTupOf2 h TO x y) ∧ k1.it h i1 i ∧ k2.it h i2 i) where
  mem := List.mem_cons_self ..
  obj := fun i h st c hc => by
    obtain ⟨hz, hTI, ⟨x, y, hTO⟩, q1, q2⟩ := st
    have e' : c = z ∨ c = TI ∨ c = TO ∨ c = i1 ∨ c = i2 := by simpa using hc
    rcases e' with rfl | rfl | rfl | rfl | rfl
    · exact ⟨_, hz, fun v q => nomatch q⟩
    · exact ⟨_, hTI, fun v q => nomatch q⟩
    · exact ⟨_, hTO, fun v q => nomatch q⟩
    · exact Sk.it_obj (k := k1) q1
    · exact Sk.it_obj (k := k2) q2
  keep := fun i h h' st q => by
    obtain ⟨hz, hTI, ⟨x, y, hTO⟩, q1, q2⟩ := st
    exact ⟨q z (by simp) _ hz, q TI (by simp) _ hTI, ⟨x, y, q TO (by simp) _ hTO⟩, Sk.it_same (k := k1) q1 fun o z => q i1 (by simp) o z, Sk.it_same (k := k2) q2 fun o z => q i2 (by simp) o z⟩
  item := by
    intro X hP hw hK hc i pins s σ H E I hf st hg
    subst hP hw hK
    obtain ⟨hz, hTI, ⟨x0, y0, hTO⟩, q1, q2⟩ := st
    obtain ⟨xs, ys, a1, a2, l1, l2⟩ := hg
    obtain ⟨P1, S1, D1⟩ := sk_draws I hc a1 q1 h1
    obtain ⟨P2, S2, D2⟩ := sk_draws I hc a2 q2 h2
    have hzl : z < s.heap.objs.size := Heap.lt_size hz
    refine wpAny_pyNext_zipD2_item Z D1.dr D2.dr hz hTI hTO D1.st D2.st l1 l2 fun u1 u2 h' tk p1 p2 hz' hTO' t1 t2 hT hsz hk => ?_
    obtain ⟨x, ex, rx⟩ := D1.val _ _ p1
    obtain ⟨y, ey, ry⟩ := D2.val _ _ p2
    refine ⟨_, rfl, wpAny_letOwnedTupleGo_zip (s := { s with heap := h', toks := tk }) hz' fun h'' z'' sb => ?_⟩
    have hT2 : h''.get? s.heap.objs.size = some { cls := .type "tuple", data := .seq #[u1, u2] } := (sb.2 _ (Nat.ne_of_gt hzl)).trans hT
    have new : ObjOk X.prog X.w (upd H s.heap.objs.size (.tup [x, y])) h'' s.heap.objs.size (.tup [x, y]) :=
      ⟨by show 2 ≤ sizeLine; decide, [u1, u2], .cons rx (.cons ry .nil), ⟨_, hT2, rfl, _, rfl⟩⟩
    have I1 : Inv X pins σ (upd H s.heap.objs.size (.tup [x, y])) { s with heap := h'', toks := tk } :=
      I.turnedNew (t' := tk) (ch := [z, TI, TO, i1, i2]) (fun c o hb q => (sb.2 c (fun q' => hb (by simp [q']))).trans (hk c o (fun q' => hb (by simp [q'])) (fun q' => hb (by simp [q'])) (fun q' => hb (by simp [q'])) (fun q' => hb (by simp [q'])) q)) hf (Nat.le_refl _) new
    have zi1 := Z.zi1
    have zi2 := Z.zi2
    refine ⟨.ref s.heap.objs.size, _, I1, rfl, ⟨_, x, y, rfl, I.hok.fresh (Nat.le_refl _), rfl, (fun l hl => by rw [sk_inj I hl a1]; exact ex), fun l hl => by rw [sk_inj I hl a2]; exact ey⟩, ⟨z'', ?_, ⟨u1, u2, ?_⟩, ?_, ?_⟩, fun c hcm => ?_⟩
    · exact (sb.2 _ Z.TIz).trans (hk _ _ Z.TIz Z.TITO Z.TIi1 Z.TIi2 hTI)
    · exact (sb.2 _ Z.TOz).trans hTO'
    · exact Sk.it_same (k := k1) (D1.it_ _ _ t1) fun o q => (sb.2 _ zi1.symm).trans q
    · exact Sk.it_same (k := k2) (D2.it_ _ _ t2) fun o q => (sb.2 _ zi2.symm).trans q
    · have hlt : c < s.heap.objs.size := by
        have e' : c = z ∨ c = TI ∨ c = TO ∨ c = i1 ∨ c = i2 := by simpa using hcm
        rcases e' with rfl | rfl | rfl | rfl | rfl
        · exact hzl
        · exact Heap.lt_size hTI
        · exact Heap.lt_size hTO
        · obtain ⟨_, e1, _⟩ := Sk.it_obj (k := k1) q1; exact Heap.lt_size e1
        · obtain ⟨_, e1, _⟩ := Sk.it_obj (k := k2) q2; exact Heap.lt_size e1
      rw [upd_ne (Nat.ne_of_lt hlt)]
      exact (hf c hcm).1
  done := by
    intro X hP hw hK hc i pins s σ H E I hf st hg
    subst hP hw hK
    obtain ⟨hz, hTI, ⟨x0, y0, hTO⟩, q1, q2⟩ := st
    obtain ⟨xs, ys, a1, a2, l1, l2, hend⟩ := hg
    obtain ⟨P1, S1, D1⟩ := sk_draws I hc a1 q1 h1
    obtain ⟨P2, S2, D2⟩ := sk_draws I hc a2 q2 h2
    exact wpAny_pyNext_zipD2_end Z D1.dr D2.dr hz hTI hTO D1.st D2.st l1 l2 hend fun h' tk hk => ⟨rfl, I.turnedL (t' := tk) (ch := [z, TI, TO, i1, i2]) (fun c o hb q =>
      hk c o (fun q' => hb (by simp [q'])) (fun q' => hb (by simp [q'])) (fun q' => hb (by simp [q'])) (fun q' => hb (by simp [q'])) q) hf⟩
  self := fun A i s Q E st h => wpAny_pyIter_zip st.1 h
theorem pi_zipS {X : Cx} {e e2 : Expr} {ta : TA} {p pos tpos : Pos} {elts : List Expr} {kk : Nat} (hg : Gl X "zip") (hm : X.mg "zip" = none) (ha : PA X [e, e2] ta)
    (hs : starEach [e, e2] X.env = (false, eval e X.env) :: starEach [e2] X.env) (hpl : (backTo pos (starEach [e2] X.env)).any (·.1) = false) :
    PI X (.Tuple elts kk tpos) (.Call (.Name "zip" p) [e, e2] [] pos) (fun σ H R => ta σ H fun vs H1 => ∃ (k1 k2 : Sk) (v1 v2 : V) (xs ys : List V), vs = [v1, v2] ∧ (∀ u, RelV v1 u → k1.v u) ∧ (∀ u, RelV v2 u → k2.v u) ∧ k1.at_ X.K H1 xs ∧ k2.at_ X.K H1 ys ∧ R (ItZ X.K k1 k2) H1) := by
  refine ⟨fun pins s σ H R I h => ?_⟩
  refine Call_ (ld_blt I hg hm PyProof.Rows.boot_zip (PyProof.Rows.callWith_type1 (thn (ha.run pos pins s σ H _ I h) fun us s1 ⟨vs, H1, I1, r1, q1⟩ => ?_) hs hpl))
  obtain ⟨k1, k2, v1, v2, xs, ys, ex, e1, e2, a1, a2, q⟩ := q1
  subst ex
  cases r1 with
  | cons r rr =>
    cases rr with
    | cons r' rr =>
      cases rr
      obtain ⟨o1, G1, B1, g1, d1, t1⟩ := sk_begins I1 a1 (e1 _ r)
      obtain ⟨o2, G2, B2, g2, d2, t2⟩ := sk_begins I1 a2 (e2 _ r')
      refine zip_begins2 B1 B2 g1 g2 fun h' hz hTI hTO h1 h2 hsz hk => wpAny_pyIter_zip hz ?_
      have I2 : Inv X pins σ H1 { s1 with heap := h' } := I1.kept (t' := s1.toks) hk
      refine ⟨s1.heap.objs.size + 4, [s1.heap.objs.size + 4, s1.heap.objs.size + 2, s1.heap.objs.size + 3, s1.heap.objs.size, s1.heap.objs.size + 1], _, _, H1, rfl, I2,
        turn_zipS k1 k2 (zip_sep2 d1 d2) (fun z => absurd (d1 _ z) (Nat.lt_irrefl _)) (fun z => absurd (d2 _ z) (Nat.not_lt.mpr (Nat.le_succ _))), ⟨hz, hTI, ⟨_, _, hTO⟩, t1 _ _ h1, t2 _ _ h2⟩, fun c hcm => ?_, q⟩
      have hle : s1.heap.objs.size ≤ c := by
        simp only [List.mem_cons, List.not_mem_nil, or_false] at hcm
        rcases hcm with rfl | rfl | rfl | rfl | rfl <;> first | exact Nat.le_add_right _ _ | exact Nat.le_refl _
      exact I1.fpOk hle (I1.hok.fresh hle)

/-! ### mirrors -/
def signsD (x : Str) : List D := x.cps.toList.map fun c => .str ⟨#[c]⟩
/-- the items of a list, a tuple, a text -/
def itemsD : D → Option (List D)
  | .nd .lst ds => some ds
  | .nd .tup ds => some ds
  | .str x => some (signsD x)
  | _ => none
def enumD : Nat → List D → List D
  | _, [] => []
  | n, d :: ds => .nd .tup [.int (n : Int), d] :: enumD (n + 1) ds
def zipD : List D → List D → List D
  | a :: as, b :: bs => .nd .tup [a, b] :: zipD as bs
  | _, _ => []
theorem enumD_get : ∀ {ds : List D} {n i : Nat} {d : D}, (enumD n ds)[i]? = some d → ∃ x, ds[i]? = some x ∧ d = .nd .tup [.int ((n + i : Nat) : Int), x]
  | [], _, _, _, h => by cases h
  | x :: ds, n, 0, d, h => ⟨x, rfl, (Option.some.inj h).symm⟩
  | x :: ds, n, i + 1, d, h => by
    obtain ⟨y, h1, h2⟩ := enumD_get (ds := ds) (n := n + 1) (i := i) h
    exact ⟨y, h1, by rw [h2, show n + 1 + i = n + (i + 1) by omega]⟩
theorem enumD_len : ∀ {ds : List D} {n : Nat}, (enumD n ds).length = ds.length
  | [], _ => rfl
  | _ :: ds, n => congrArg Nat.succ (enumD_len (ds := ds) (n := n + 1))
theorem zipD_get : ∀ {as bs : List D} {i : Nat} {d : D}, (zipD as bs)[i]? = some d → ∃ x y, as[i]? = some x ∧ bs[i]? = some y ∧ d = .nd .tup [x, y]
  | [], _, _, _, h => by cases h
  | _ :: _, [], _, _, h => by cases h
  | x :: as, y :: bs, 0, d, h => ⟨x, y, rfl, rfl, (Option.some.inj h).symm⟩
  | x :: as, y :: bs, i + 1, d, h => zipD_get (as := as) (bs := bs) (i := i) h
theorem zipD_len : ∀ {as bs : List D}, (zipD as bs).length = min as.length bs.length
  | [], _ => by simp [zipD]
  | _ :: _, [] => by simp [zipD]
  | x :: as, y :: bs => by simp only [zipD, List.length_cons, zipD_len (as := as) (bs := bs)]; omega
/-- a source -/
theorem items_sk {K : PySem.W.Frag} {W : Wd} {H : Hp} {d : D} {ds : List D} {v : V} (h : itemsD d = some ds) (sm : Same W.F H) (r : RepH W H d v) :
    ∃ k : Sk, (∀ u, RelV v u → k.v u) ∧ ∀ (W' : Wd) (H' : Hp), Same W'.F H' → RepH W' H' d v → ∃ xs, k.at_ K H' xs ∧ Reps W' ds xs := by
  unfold itemsD at h
  split at h
  · rename_i es
    cases h
    obtain ⟨a, xs, rfl, hF, rs⟩ := r.lst sm
    refine ⟨.l a, fun u q => q, fun W' H' sm' r' => ?_⟩
    obtain ⟨b, ys, e, h1, h2⟩ := r'.lst sm'
    cases e
    exact ⟨ys, SqL.of h1, h2⟩
  · rename_i es
    cases h
    obtain ⟨a, xs, rfl, hF, rs⟩ := r.tup sm
    refine ⟨.t a, fun u q => q, fun W' H' sm' r' => ?_⟩
    obtain ⟨b, ys, e, h1, h2⟩ := r'.tup sm'
    cases e
    exact ⟨ys, SqT.of h1, h2⟩
  · rename_i x
    cases h
    have r : v = .str x := r.str
    subst r
    have key : ∀ (W' : Wd) (cs : List Nat), Reps W' (cs.map fun c => D.str ⟨#[c]⟩) (cs.map fun c => V.str ⟨#[c]⟩) := fun W' cs => by
      induction cs with
      | nil => rfl
      | cons c cs ih => exact ⟨_, _, rfl, rfl, ih⟩
    exact ⟨.s x, fun u q => q, fun W' H' _ _ => ⟨_, rfl, key W' _⟩⟩
  · cases h
def iEnum (fs : S → Ou (List Ar)) : S → Ou Wk := fun s => (fs s).bind fun xs s1 => match xs with
  | [x] => match s1.look x with
    | some d => match itemsD d with
      | some es => .ok ⟨gdOf s1 x, d, enumD 0 es⟩ s1
      | none => .bad
    | none => .bad
  | _ => .bad
def iZip (ff : S → Ou (List D)) : S → Ou Wk := fun s => (ff s).bind fun ds s1 => match ds with
  | [d, e] => match itemsD d, itemsD e with
    | some as, some bs => .ok ⟨.non, .non, zipD as bs⟩ s1
    | _, _ => .bad
  | _ => .bad
section
variable {X : Cx} {e e2 : Expr} {p pos tpos : Pos} {elts : List Expr} {kk : Nat}
theorem PID.enum {fs : S → Ou (List Ar)} (hg : Gl X "enumerate") (hm : X.mg "enumerate" = none) (ha : PAD kAs X [e] fs) (hs : starEach [e] X.env = [(false, eval e X.env)]) : PID X (.Tuple elts kk tpos) (.Call (.Name "enumerate" p) [e] [] pos) (iEnum fs) := fun Wx tk =>
  PI.imp (pi_enumS hg hm (ha Wx tk) hs) fun t H Q ⟨W, s, o, R, q⟩ => ⟨W, s, o, R, Po.bind q fun as vs s1 W1 H1 st ln R1 rs q1 => by
    have rs : RepAs W1 t as vs := rs
    split at q1
    · rename_i x
      cases rs with
      | cons rv rn =>
        rename_i v vs'
        cases rn
        split at q1
        · rename_i d el
          split at q1
          · rename_i es he
            have rd := R1.look rv el
            obtain ⟨k, hv, hk⟩ := items_sk (K := X.K) he R1.hr.same rd
            obtain ⟨xs, hx, rx⟩ := hk W1 H1 R1.hr.same rd
            refine ⟨k, v, xs, rfl, hv, hx, Po.pure (k := kI X.K) q1 R1 ⟨v, GdOk.of R1 rv el, ⟨fun i W2 H2 d2 hK l sm r2 e2 => ?_, fun W2 H2 hK l sm r2 => ?_⟩⟩⟩
            · obtain ⟨ys, hy, ry⟩ := hk W2 H2 sm r2
              obtain ⟨x, ex, rfl⟩ := enumD_get e2
              obtain ⟨y, ey, rxy⟩ := ry.get ex
              refine ⟨⟨ys, hy, (List.getElem?_eq_some_iff.mp ey).1⟩, fun z H3 ⟨T, x', e3, e4, e5, e6⟩ => ?_⟩
              subst e3 e5
              have e7 := e6 ys hy
              rw [ey] at e7
              cases e7
              have g := Grow.fr (o := .tup [.int (i : Nat), y]) sm e4
              refine ⟨_, g, T, rfl, _, upd_same, ⟨_, _, rfl, ?_, ⟨y, [], rfl, rxy.mono g.le, rfl⟩⟩⟩
              show V.int _ = .int ((0 + i : Nat) : Int)
              rw [Nat.zero_add]
            · obtain ⟨ys, hy, ry⟩ := hk W2 H2 sm r2
              exact ⟨ys, hy, by show _ = (enumD 0 es).length; rw [enumD_len, ry.length]⟩
          · exact False.elim q1
        · exact False.elim q1
    · exact False.elim q1⟩
theorem PID.zip {ff : S → Ou (List D)} (hg : Gl X "zip") (hm : X.mg "zip" = none) (ha : PAD kFs X [e, e2] ff) (hs : starEach [e, e2] X.env = (false, eval e X.env) :: starEach [e2] X.env) (hpl : (backTo pos (starEach [e2] X.env)).any (·.1) = false) :
    PID X (.Tuple elts kk tpos) (.Call (.Name "zip" p) [e, e2] [] pos) (iZip ff) := fun Wx tk =>
  PI.imp (pi_zipS hg hm (ha Wx tk) hs hpl) fun t H Q ⟨W, s, o, R, q⟩ => ⟨W, s, o, R, Po.bind q fun ds vs s1 W1 H1 st ln R1 rs q1 => by
    have rs : Reps W1 ds vs := rs
    split at q1
    · rename_i d d'
      split at q1
      · rename_i as bs ha hb
        obtain ⟨v, r0, rfl, rv, v', r1, rfl, rv', rn⟩ := rs
        have rn : r1 = [] := rn
        subst rn
        obtain ⟨k, hv, hk⟩ := items_sk (K := X.K) ha R1.hr.same (.inl rv)
        obtain ⟨k', hv', hk'⟩ := items_sk (K := X.K) hb R1.hr.same (.inl rv')
        obtain ⟨xs, hx, rx⟩ := hk W1 H1 R1.hr.same (.inl rv)
        obtain ⟨xs', hx', rx'⟩ := hk' W1 H1 R1.hr.same (.inl rv')
        refine ⟨k, k', v, v', xs, xs', rfl, hv, hv', hx, hx', Po.pure (k := kI X.K) q1 R1 ⟨.non, rfl, ⟨fun i W2 H2 d2 hK l sm r2 e2 => ?_, fun W2 H2 hK l sm r2 => ?_⟩⟩⟩
        · obtain ⟨ys, hy, ry⟩ := hk W2 H2 sm (.inl (rv.mono l))
          obtain ⟨ys', hy', ry'⟩ := hk' W2 H2 sm (.inl (rv'.mono l))
          obtain ⟨x, x', ex, ex', rfl⟩ := zipD_get e2
          obtain ⟨y, ey, rxy⟩ := ry.get ex
          obtain ⟨y', ey', rxy'⟩ := ry'.get ex'
          refine ⟨⟨ys, ys', hy, hy', (List.getElem?_eq_some_iff.mp ey).1, (List.getElem?_eq_some_iff.mp ey').1⟩, fun z H3 ⟨T, w1, w2, e3, e4, e5, e6, e6'⟩ => ?_⟩
          subst e3 e5
          have e7 := e6 ys hy
          rw [ey] at e7
          cases e7
          have e8 := e6' ys' hy'
          rw [ey'] at e8
          cases e8
          have g := Grow.fr (o := .tup [y, y']) sm e4
          exact ⟨_, g, T, rfl, _, upd_same, ⟨y, _, rfl, rxy.mono g.le, ⟨y', [], rfl, rxy'.mono g.le, rfl⟩⟩⟩
        · obtain ⟨ys, hy, ry⟩ := hk W2 H2 sm (.inl (rv.mono l))
          obtain ⟨ys', hy', ry'⟩ := hk' W2 H2 sm (.inl (rv'.mono l))
          have e1 := ry.length
          have e2 := ry'.length
          have e3 := zipD_len (as := as) (bs := bs)
          refine ⟨ys, ys', hy, hy', ?_, ?_, ?_⟩
          · show (zipD as bs).length ≤ _; omega
          · show (zipD as bs).length ≤ _; omega
          · show (zipD as bs).length = _ ∨ (zipD as bs).length = _; omega
      · exact False.elim q1
    · exact False.elim q1⟩
theorem pi_seqLT {tg l : Expr} {tl : TE} (hl : PE X l tl) : PI X tg l (fun σ H R => tl σ H fun x H1 => ∃ a, x = .ref a ∧ (((∃ xs, SqL X.K H1 a xs) ∧ R (Itl X.K a) H1) ∨ ((∃ xs, SqT X.K H1 a xs) ∧ R (Itt X.K a) H1))) := by
  refine ⟨fun pins s0 σ H R I0 hyp => ?_⟩
  refine thn (hl.run pins s0 σ H _ I0 hyp) fun v s1 ⟨x, H1, I1, r1, a, ea, hh⟩ => ?_
  subst ea
  cases r1
  rcases hh with ⟨⟨xs, hq⟩, q⟩ | ⟨⟨xs, hq⟩, q⟩
  · obtain ⟨its, _, p, _⟩ := I1.list hq
    refine wpAny_pyIter_list p.isList ⟨s1.heap.objs.size, [s1.heap.objs.size], _, _, H1, rfl, I1.kept (t' := s1.toks) fun b ob e => Heap.get?_push_of_some _ e, turn_list a _, ⟨_, Heap.get?_push_size _ rfl, rfl, rfl⟩, fun b hb => ?_, q⟩
    rw [List.mem_singleton.mp hb]
    exact I1.fpOk (Nat.le_refl _) (I1.hok.fresh (Nat.le_refl _))
  · obtain ⟨its, _, p, _⟩ := I1.tuple hq
    refine wpAny_pyIter_tuple (show s1.heap.IsTuple a its.toArray from p) ⟨s1.heap.objs.size, [s1.heap.objs.size], _, _, H1, rfl, I1.kept (t' := s1.toks) fun b ob e => Heap.get?_push_of_some _ e, turn_tuple a _, ⟨_, Heap.get?_push_size _ rfl, rfl, rfl⟩, fun b hb => ?_, q⟩
    rw [List.mem_singleton.mp hb]
    exact I1.fpOk (Nat.le_refl _) (I1.hok.fresh (Nat.le_refl _))
/-- a list or a tuple -/
theorem PID.seq {tg : Expr} {fa : S → Ou Ar} (h : PD kA X e fa) : PID X tg e (iSeq fa) := fun Wx tk => PI.imp (pi_seqLT (h Wx tk)) fun t H Q ⟨W, s, o, R, q⟩ => ⟨W, s, o, R, Po.bind q fun x v s1 W1 H1 st ln R1 rx q1 => by
  split at q1
  · rename_i ds e1
    obtain ⟨a, xs, rfl, hH, rs⟩ := (R1.look rx e1).lst R1.hr.same
    exact ⟨a, rfl, .inl ⟨⟨xs, SqL.of hH⟩, Po.pure (k := kI X.K) q1 R1 ⟨.ref a, GdOk.of R1 rx e1, walks_lst⟩⟩⟩
  · rename_i ds e1
    obtain ⟨a, xs, rfl, hH, rs⟩ := (R1.look rx e1).tup R1.hr.same
    exact ⟨a, rfl, .inr ⟨⟨xs, SqT.of hH⟩, Po.pure (k := kI X.K) q1 R1 ⟨.ref a, GdOk.of R1 rx e1, walks_tup⟩⟩⟩
  · exact False.elim q1⟩
end
end TD

end
section
set_option maxRecDepth 100000
set_option maxHeartbeats 4000000
/-! TdW: starred targets. -/
namespace TD
open PySem L2 PyProof.Rows

theorem vals_take {xs : List V} {us : List Value} (r : Vals xs us) : ∀ n, Vals (xs.take n) (us.take n) := by
  induction r with
  | nil => intro n; rw [List.take_nil, List.take_nil]; exact .nil
  | cons a _ ih =>
    intro n
    cases n with
    | zero => exact .nil
    | succ n => exact .cons a (ih n)
theorem vals_drop {xs : List V} {us : List Value} (r : Vals xs us) : ∀ n, Vals (xs.drop n) (us.drop n) := by
  induction r with
  | nil => intro n; rw [List.drop_nil, List.drop_nil]; exact .nil
  | cons a r ih =>
    intro n
    cases n with
    | zero => exact .cons a r
    | succ n => exact ih n
theorem vals_app {xs ys : List V} {us ws : List Value} (r : Vals xs us) (q : Vals ys ws) : Vals (xs ++ ys) (us ++ ws) := by
  induction r with
  | nil => exact q
  | cons a _ ih => exact .cons a ih
section
variable {P0 : Program} {w0 : World} {A0 : Around} {E : Value → Shared → Prop} {s : Shared}
/-- the parts around a star -/
theorem star_items {l : Addr} {items : Array Value} {n i : Nat} {Q : List Value → Shared → Prop} (hl : s.heap.IsList l items ∨ IsTup s.heap l items) (hh : A0.handled = none) (hi : i < n) (hn : n ≤ items.size + 1) (hz : items.size ≤ sizeLine)
    (hq : ∀ (h' : Heap) (tk : Nat), (∀ b o, s.heap.get? b = some o → h'.get? b = some o) → Q (items.toList.take i ++ [.ref h'.objs.size] ++ (items.toList.drop i).drop (items.size + 1 - n)) { s with heap := h'.push { cls := .type "list", data := .seq ((items.toList.drop i).take (items.size + 1 - n)).toArray }, toks := tk }) :
    wpAny (model P0 w0) A0 (unpackItems (.ref l) n (some i)) Q E s := by
  have hll : l < s.heap.objs.size := by rcases hl with ⟨o, ho, _⟩ | ⟨o, ho, _⟩ <;> exact Heap.lt_size ho
  have hlt : l ≠ s.heap.objs.size := Nat.ne_of_lt hll
  have hfl : (items.toList.take i).length = i := by rw [List.length_take, Array.length_toList]; omega
  have hrl : (items.toList.drop i).length = items.size - i := by rw [List.length_drop, Array.length_toList]
  have hmid : (items.toList.drop i).length - (n - 1 - i) = items.size + 1 - n := by rw [hrl]; omega
  have kk : ∀ (h1 h2 : Heap), (∀ b o, b ≠ s.heap.objs.size → s.heap.get? b = some o → h1.get? b = some o) → (∀ b o, b ≠ s.heap.objs.size → h1.get? b = some o → h2.get? b = some o) → ∀ b o, s.heap.get? b = some o → h2.get? b = some o := fun h1 h2 k1 k2 b o e =>
    have hb : b ≠ s.heap.objs.size := Nat.ne_of_lt (Heap.lt_size e)
    k2 b o hb (k1 b o hb e)
  unfold unpackItems
  rcases hl with hl | hl
  · refine wpAny_bind ?_
    unfold notIterableAtAll
    refine wpAny_bind (wpAny_specialOf hl.typeIs slot_list_iter.lookup (wpAny_pure ?_))
    simp only [Bool.false_eq_true, if_false]
    refine wpAny_bind (wpAny_holding (wpAny_pyIter_list hl ?_))
    refine wpAny_bind (wpAny_holding (PySem.W.kun_draw hlt i 0 _ _ ⟨_, Heap.get?_push_size _ rfl, rfl, rfl⟩ (hl.push _) (by omega) fun h1 it1 sb => ?_))
    have hl1 : h1.IsList l items := (hl.push _).extBut sb.extBut hlt
    rw [Nat.zero_add] at it1
    have it2 := it1
    obtain ⟨oi, hoi, _⟩ := it2
    have hl2 := hl1
    obtain ⟨ol, hol, _⟩ := hl2
    rw [List.drop_zero, if_neg (show ¬ ((items.toList.take i).length < i) by rw [hfl]; omega)]
    refine wpAny_bind (wpAny_holding (PySem.W.kun_collect (s := { s with heap := h1 }) (T := "list_iterator") (.inr (.inr (.inl rfl))) (Walks.list (A := A0.in1) hh s.heap.objs.size l hlt items) (fun j u st => st.1.typeIs) (k := i) (by omega) ⟨it1, hl1⟩ (Heap.lt_size hoi) (Heap.lt_size hol) (fun h2 tk hk => ?_) hz))
    show wpAny _ _ (if (items.toList.drop i).length < n - 1 - i then _ else _) _ _ { s with heap := h2, toks := tk }
    rw [if_neg (by rw [hrl]; omega)]
    show wpAny _ _ (newList ((items.toList.drop i).take ((items.toList.drop i).length - (n - 1 - i))) >>= fun w => pure (items.toList.take i ++ [w] ++ (items.toList.drop i).drop ((items.toList.drop i).length - (n - 1 - i)))) _ _ _
    rw [hmid]
    exact wpAny_bind (wpAny_newList (wpAny_pure (hq h2 tk (kk h1 h2 (fun b o hb e => sb.extBut b o hb (Heap.get?_push_of_some _ e)) hk))) (by rw [List.length_take, hrl]; omega))
  · refine wpAny_bind ?_
    unfold notIterableAtAll
    refine wpAny_bind (wpAny_specialOf hl.typeIs slot_tuple_iter.lookup (wpAny_pure ?_))
    simp only [Bool.false_eq_true, if_false]
    refine wpAny_bind (wpAny_holding (iter_tuple hl ?_))
    refine wpAny_bind (wpAny_holding (draw_tuple hlt i 0 _ _ ⟨_, Heap.get?_push_size _ rfl, rfl, rfl⟩ (hl.push _) (by omega) fun h1 it1 sb => ?_))
    have hl1 : IsTup h1 l items := (hl.push _).extBut sb.extBut hlt
    rw [Nat.zero_add] at it1
    have it2 := it1
    obtain ⟨oi, hoi, _⟩ := it2
    have hl2 := hl1
    obtain ⟨ol, hol, _⟩ := hl2
    rw [List.drop_zero, if_neg (show ¬ ((items.toList.take i).length < i) by rw [hfl]; omega)]
    refine wpAny_bind (wpAny_holding (PySem.W.kun_collect (s := { s with heap := h1 }) (T := "tuple_iterator") (.inr (.inr (.inr rfl))) (Walks.tuple (A := A0.in1) hh s.heap.objs.size l hlt items) (fun j u st => st.1.typeIs) (k := i) (by omega) ⟨it1, hl1⟩ (Heap.lt_size hoi) (Heap.lt_size hol) (fun h2 tk hk => ?_) hz))
    show wpAny _ _ (if (items.toList.drop i).length < n - 1 - i then _ else _) _ _ { s with heap := h2, toks := tk }
    rw [if_neg (by rw [hrl]; omega)]
    show wpAny _ _ (newList ((items.toList.drop i).take ((items.toList.drop i).length - (n - 1 - i))) >>= fun w => pure (items.toList.take i ++ [w] ++ (items.toList.drop i).drop ((items.toList.drop i).length - (n - 1 - i)))) _ _ _
    rw [hmid]
    exact wpAny_bind (wpAny_newList (wpAny_pure (hq h2 tk (kk h1 h2 (fun b o hb e => sb.extBut b o hb (Heap.get?_push_of_some _ e)) hk))) (by rw [List.length_take, hrl]; omega))
end
def gStar (K : PySem.W.Frag) (n i : Nat) (g : TGs) : TG := fun v σ H Q => ∃ a xs, v = .ref a ∧ (SqL K H a xs ∨ SqT K H a xs) ∧ n ≤ xs.length + 1 ∧
  ∀ D, H D = none → g (xs.take i ++ [.ref D] ++ (xs.drop i).drop (xs.length + 1 - n)) σ (upd H D (.lst ((xs.drop i).take (xs.length + 1 - n)))) Q
section
variable {X : Cx} {es ts : List Expr} {pos pt : Pos} {kt : Nat} {e : Expr}
theorem pg_star {n i : Nat} {g : TGs} (hc : X.calm = true) (hg : PGs X ts g) (hts : (assignEach es X.env).map (·.2) = (assignEach ts X.env).map (·.2)) (hi : i < n) (hn : (assignEach es X.env).length = n) (hst : (assignEach es X.env).findIdx? (·.1) = some i) : PG X (.Tuple es kt pt) (gStar X.K n i g) := by
  refine ⟨fun pins s σ H v u Q I r hw => ?_⟩
  obtain ⟨a, xs, rfl, hq, hle, hw⟩ := hw
  cases r
  have hx : ∃ its : List Value, Vals xs its ∧ (s.heap.IsList a its.toArray ∨ IsTup s.heap a its.toArray) ∧ xs.length ≤ sizeLine := by
    rcases hq with hq | hq
    · obtain ⟨its, rv, p, hz⟩ := I.list hq
      exact ⟨its, rv, .inl p.isList, hz⟩
    · obtain ⟨its, rv, p, hz⟩ := I.tuple hq
      exact ⟨its, rv, .inr p, hz⟩
  obtain ⟨its, rv, p, hz⟩ := hx
  have el : xs.length = its.toArray.size := by rw [rv.length]; simp
  rw [assign_Tuple]
  refine wpAny_bind (wpAny_standAt ?_)
  unfold unpack
  rw [hn, hst]
  refine wpAny_bind (wpAny_holding (star_items p (I.ok.hd hc) hi (by rw [← el]; exact hle) (by rw [← el]; exact hz) fun h' tk k => ?_))
  have I1 : Inv X pins σ H { s with heap := h', toks := tk } := I.kept k
  have hD : H h'.objs.size = none := I1.hok.fresh (Nat.le_refl _)
  have vm : Vals ((xs.drop i).take (xs.length + 1 - n)) ((its.toArray.toList.drop i).take (its.toArray.size + 1 - n)) := by
    rw [← el]
    exact vals_take (vals_drop (by simpa using rv) _) _
  have I2 : Inv X pins σ (upd H h'.objs.size (.lst ((xs.drop i).take (xs.length + 1 - n)))) { s with heap := h'.push { cls := .type "list", data := .seq ((its.toArray.toList.drop i).take (its.toArray.size + 1 - n)).toArray }, toks := tk } :=
    I1.laid (t' := tk) (fun b u e => Heap.get?_push_of_some _ e) (Nat.le_refl _) ⟨by rw [List.length_take, List.length_drop]; omega, _, 0, vm, Heap.get?_push_size _ rfl⟩
  rw [hts]
  refine hg.run pins _ σ _ _ _ Q I2 ?_ (hw _ hD)
  refine vals_app (vals_app (vals_take (by simpa using rv) _) (.cons rfl .nil)) ?_
  rw [← el]
  exact vals_drop (vals_drop (by simpa using rv) _) _
theorem RepVs.froz {W : Wd} {O N : Addr → Prop} {H : Hp} : ∀ {ds : List D} {vs : List V}, Reps W ds vs → RepVs W O N H (ds.map fun d => (d, false)) vs ∧ newV (ds.map fun d => (d, false)) vs = []
  | [], vs, h => by
    have h : vs = [] := h
    subst h
    exact ⟨.nil, rfl⟩
  | d :: ds, _, ⟨v, r, rfl, h1, h2⟩ => by
    obtain ⟨q1, q2⟩ := RepVs.froz (O := O) (N := N) (H := H) h2
    exact ⟨.cons (.mkF h1) (fun z => nomatch z) q1, q2⟩
theorem newV_cons {a : D × Bool} {v : V} {as : List (D × Bool)} {vs : List V} : newV (a :: as) (v :: vs) = if a.2 = true then v :: newV as vs else newV as vs := rfl
theorem RepVs.app {W : Wd} {O N : Addr → Prop} {H : Hp} {as bs : List (D × Bool)} {vs us : List V} (h : RepVs W O N H as vs) (h' : RepVs W O N H bs us) (hn : ∀ v ∈ newV as vs, v ∉ newV bs us) : RepVs W O N H (as ++ bs) (vs ++ us) ∧ newV (as ++ bs) (vs ++ us) = newV as vs ++ newV bs us := by
  induction h with
  | nil => exact ⟨h', rfl⟩
  | @cons a v as vs r n _ ih =>
    have hn' : ∀ x ∈ newV as vs, x ∉ newV bs us := fun x hx => hn x (by rw [newV_cons]; split; exact List.mem_cons_of_mem _ hx; exact hx)
    obtain ⟨q1, q2⟩ := ih hn'
    refine ⟨.cons r (fun e z => ?_) q1, ?_⟩
    · have z : v ∈ newV (as ++ bs) (vs ++ us) := z
      rw [q2] at z
      rcases List.mem_append.mp z with z | z
      · exact n e z
      · exact hn v (by rw [newV_cons, if_pos e]; exact List.mem_cons_self ..) z
    · show newV (a :: (as ++ bs)) (v :: (vs ++ us)) = newV (a :: as) (v :: vs) ++ newV bs us
      rw [newV_cons, newV_cons, q2]
      split <;> rfl
/-- a, *b, c = ..: is: the slots, the star at i -/
def sStar (is : List Nat) (i : Nat) (fe : S → Ou D) : S → OutS := fun s => (fe s).thn fun d s1 => match seqD d with
  | some ds => if is.length ≤ ds.length + 1 then putsL is ((ds.take i).map (fun d => (d, false)) ++ [(.nd .lst ((ds.drop i).take (ds.length + 1 - is.length)), true)] ++ ((ds.drop i).drop (ds.length + 1 - is.length)).map (fun d => (d, false))) s1 else .bad
  | none => .bad
theorem PSD.star {is : List Nat} {i : Nat} {g : TGs} {fe : S → Ou D} (hc : X.calm = true) (he : PD kF X e fe) (hg : PGs X ts g) (hk : NmsOk g is) (hi : i < is.length) (hts : (assignEach es X.env).map (·.2) = (assignEach ts X.env).map (·.2)) (hn : (assignEach es X.env).length = is.length) (hst : (assignEach es X.env).findIdx? (·.1) = some i)
    (hs : swapsWithSole [.Tuple es kt pt] e pos.line X.env = pure false) (hw : swappedStores [.Tuple es kt pt] e X.env = pure none) : PSD X (.Assign [.Tuple es kt pt] e pos) (sStar is i fe) := fun Wx tk =>
  PS.imp (ps_asg (he Wx tk) (pg_star hc hg hts hi hn hst) hs hw) fun D t H ⟨W, s, o, R, q⟩ => ⟨W, s, o, R, PoS.thn q fun d v s1 W1 H1 st ln R1 rv q1 => by
    split at q1
    · rename_i ds e1
      split at q1
      · rename_i hle
        obtain ⟨a, xs, rfl, hq, rs⟩ := seq_rep (K := X.K) R1.hr.same (.inl rv) e1
        have el := rs.length
        refine ⟨a, xs, rfl, hq, by rw [el]; exact hle, fun p hp => hk.run _ t _ _ ?_ ?_⟩
        · rw [List.length_append, List.length_append, List.length_take, List.length_drop, List.length_drop]
          simp only [List.length_cons, List.length_nil]
          omega
        · rw [el]
          have g := Grow.new (o := .lst ((xs.drop i).take (ds.length + 1 - is.length))) R1.hr.same hp
          have R2 := g.rel R1
          have nn := R1.newNot hp
          have rm : Reps W1 ((ds.drop i).take (ds.length + 1 - is.length)) ((xs.drop i).take (ds.length + 1 - is.length)) := .take _ (.drop _ rs)
          have f1 := RepVs.froz (O := Ow s1 t) (N := New s1 t H1) (H := upd H1 p (.lst ((xs.drop i).take (ds.length + 1 - is.length)))) (Reps.take i rs)
          have f2 := RepVs.froz (O := Ow s1 t) (N := New s1 t H1) (H := upd H1 p (.lst ((xs.drop i).take (ds.length + 1 - is.length)))) (Reps.drop (ds.length + 1 - is.length) (Reps.drop i rs))
          have mid : RepVs W1 (Ow s1 t) (New s1 t H1) (upd H1 p (.lst ((xs.drop i).take (ds.length + 1 - is.length)))) [(.nd .lst ((ds.drop i).take (ds.length + 1 - is.length)), true)] [.ref p] :=
            .cons (.mkT ⟨p, _, rfl, .inl hp, nn.1, nn.2.1, nn.2.2, upd_same, ⟨_, rfl, rm⟩⟩) (fun _ z => nomatch z) .nil
          have g1 := f1.1.app mid (by rw [f1.2]; exact fun v z => nomatch z)
          have g2 := g1.1.app f2.1 (by rw [f2.2]; exact fun v _ z => nomatch z)
          exact PoS.puts g.step .refl R2 g2.1 q1
      · exact False.elim q1
    · exact False.elim q1⟩
end
end TD

end
section
set_option maxRecDepth 100000
set_option maxHeartbeats 4000000
/-! TdX: dicts of the written part, with text keys and flat values. -/
namespace TD
open PySem L2 PyProof.Rows

/-- a flat value of the written part -/
def flatU : Value → Option D
  | .int i _ => some (.int i)
  | .str x _ => some (.str x)
  | .bool b => some (.bl b)
  | .none => some .non
  | _ => none
def flatV' : D → V
  | .int i => .int i
  | .str x => .str x
  | .bl b => .bl b
  | _ => .non
theorem flatU_rel {u : Value} {d : D} (h : flatU u = some d) : RelV (flatV' d) u ∧ ∀ W, Rep W d (flatV' d) := by
  unfold flatU at h
  split at h <;> first
    | (cases h; exact ⟨⟨_, rfl⟩, fun W => rfl⟩)
    | (cases h; exact ⟨rfl, fun W => rfl⟩)
    | cases h
/-- the table that a dict's entries tell -/
def tabU : List DictEntry → Option (List (Str × D))
  | [] => some []
  | e :: r => match e.key, flatU e.val, tabU r with
    | .str x _, some d, some t => some ((x, d) :: t)
    | _, _, _ => none
def tabAt : List (Str × D) → Str → Option D
  | [], _ => none
  | (y, d) :: t, x => if y == x then some d else tabAt t x
/-- at d: a written dict with that table -/
structure KTab (K : PySem.W.Frag) (w : World) (d : Addr) (t : List (Str × D)) : Prop where
  kd : ∃ es n, KDict K w d es n ∧ tabU es.toList = some t
theorem tabU_find : ∀ {es : List DictEntry} {t : List (Str × D)}, tabU es = some t → (es.any (·.refKey)) = false ∧ ∀ x, match es.find? (·.key.isStr x) with
    | some e => ∃ d, tabAt t x = some d ∧ flatU e.val = some d
    | none => tabAt t x = none
  | [], t, h => by
    cases h
    exact ⟨rfl, fun x => rfl⟩
  | e :: es, t, h => by
    obtain ⟨k, hk⟩ : ∃ k, e.key = k := ⟨_, rfl⟩
    unfold tabU at h
    split at h
    · rename_i x tk d t' e1 e2 e3
      cases h
      obtain ⟨h1, h2⟩ := tabU_find e3
      refine ⟨?_, fun y => ?_⟩
      · rw [List.any_cons, h1, Bool.or_false]
        unfold DictEntry.refKey
        rw [e1]
      · rw [List.find?_cons, e1]
        show match (match Value.isStr (.str x tk) y with | true => some e | false => List.find? (fun e => e.key.isStr y) es) with
          | some e => ∃ d', tabAt ((x, d) :: t') y = some d' ∧ flatU e.val = some d'
          | none => tabAt ((x, d) :: t') y = none
        have ei : Value.isStr (.str x tk) y = (x == y) := rfl
        rw [ei]
        unfold tabAt
        cases x == y with
        | true => exact ⟨d, rfl, e2⟩
        | false => exact h2 y
    · cases h
theorem KTab.ns {K : PySem.W.Frag} {w : World} {d : Addr} {t : List (Str × D)} (h : KTab K w d t) (x : Str) : ∃ es n r, KDict K w d es n ∧ PySem.W.nsIn K d x = some r ∧ (match r with
    | some u => ∃ e, tabAt t x = some e ∧ flatU u = some e
    | none => tabAt t x = none) := by
  obtain ⟨es, n, kd, ht⟩ := h.kd
  obtain ⟨h1, h2⟩ := tabU_find ht
  have h2 := h2 x
  have e : PySem.W.nsIn K d x = some ((es.toList.find? (·.key.isStr x)).map (·.val)) := by
    unfold PySem.W.nsIn
    rw [kd.at_]
    dsimp only
    cases hf : es.toList.find? (·.key.isStr x) with
    | some e => rfl
    | none => dsimp only; rw [h1]; rfl
  refine ⟨es, n, _, kd, e, ?_⟩
  cases hf : es.toList.find? (·.key.isStr x) with
  | some e => rw [hf] at h2; exact h2
  | none => rw [hf] at h2; exact h2
def ktIn (t : List (Str × D)) (neg : Bool) (fe : S → Ou D) : S → Ou (D × Bool) := fun s => (fe s).bind fun d s1 => match d with
  | .str x => .ok (.bl ((tabAt t x).isSome != neg), false) s1
  | _ => .bad
def ktIx (t : List (Str × D)) (fe : S → Ou D) : S → Ou (D × Bool) := fun s => (fe s).bind fun d s1 => match d with
  | .str x => match tabAt t x with
    | some e => .ok (e, false) s1
    | none => .bad
  | _ => .bad
def ktGet (t : List (Str × D)) (ff : S → Ou (List D)) : S → Ou (D × Bool) := fun s => (ff s).bind fun ds s1 => match ds with
  | [.str x] => .ok ((tabAt t x).getD .non, false) s1
  | _ => .bad
section
variable {X : Cx} {e : Expr} {pos p apos cpos : Pos} {x : Str} {d : Addr} {t : List (Str × D)} {fe : S → Ou D}
theorem ns_some {K : PySem.W.Frag} {w : World} {y : Str} (h : KTab K w d t) : ∃ es n r, KDict K w d es n ∧ PySem.W.nsIn K d y = some r ∧ r.isSome = (tabAt t y).isSome := by
  obtain ⟨es, n, r, h1, h2, h3⟩ := h.ns y
  refine ⟨es, n, r, h1, h2, ?_⟩
  cases r with
  | some u => obtain ⟨e, h4, _⟩ := h3; rw [h4]; rfl
  | none => rw [show tabAt t y = none from h3]; rfl
theorem op_inT (T : KTab X.K X.w d t) : OpR X (compareOp .In) (fun x y H Q => ∃ (z : Str), x = .str z ∧ y = .ref d ∧ Q (.bl (tabAt t z).isSome) H) := by
  intro pins s σ H x y v u Q I rx ry h
  obtain ⟨z, rfl, rfl, q⟩ := h
  obtain ⟨es, n, r, kd, h2, h3⟩ := ns_some (y := z) T
  exact op_in_kd kd pins s σ H (.str z) (.ref d) v u Q I rx ry ⟨z, r, rfl, rfl, h2, by rw [h3]; exact q⟩
theorem op_notInT (T : KTab X.K X.w d t) : OpR X (compareOp .NotIn) (fun x y H Q => ∃ (z : Str), x = .str z ∧ y = .ref d ∧ Q (.bl (!(tabAt t z).isSome)) H) := by
  intro pins s σ H x y v u Q I rx ry h
  obtain ⟨z, rfl, rfl, q⟩ := h
  obtain ⟨es, n, r, kd, h2, h3⟩ := ns_some (y := z) T
  exact op_notIn_kd kd pins s σ H (.str z) (.ref d) v u Q I rx ry ⟨z, r, rfl, rfl, h2, by rw [h3]; exact q⟩
/-- x in D -/
theorem PD.inTab (T : KTab X.K X.w d t) (he : PD kF X e fe) (hg : Gl X x) (hm : X.mg x = some (.ref d)) (hdb : (x == ("__debug__" : Str)) = false) : PD kV X (.Compare e [.In] [.Name x p] pos) (ktIn t false fe) := fun Wx tk =>
  PE.imp (pe_cmpR (op_inT T) (he Wx tk) (pe_glob hg hm (v := .ref d) rfl hdb) rfl) fun s H Q ⟨W, s0, o, R, q⟩ => ⟨W, s0, o, R, Po.bind q fun a v s1 W1 H1 st ln R1 ra q1 => by
    split at q1
    · rename_i z
      have ra : v = .str z := ra
      refine ⟨z, ra, rfl, ?_⟩
      have q2 := Po.pure q1 R1 (kV_F (show Rep W1 (.bl ((tabAt t z).isSome != false)) (.bl ((tabAt t z).isSome != false)) from rfl))
      rwa [Bool.bne_false] at q2
    · exact False.elim q1⟩
theorem PD.notInTab (T : KTab X.K X.w d t) (he : PD kF X e fe) (hg : Gl X x) (hm : X.mg x = some (.ref d)) (hdb : (x == ("__debug__" : Str)) = false) : PD kV X (.Compare e [.NotIn] [.Name x p] pos) (ktIn t true fe) := fun Wx tk =>
  PE.imp (pe_cmpR (op_notInT T) (he Wx tk) (pe_glob hg hm (v := .ref d) rfl hdb) rfl) fun s H Q ⟨W, s0, o, R, q⟩ => ⟨W, s0, o, R, Po.bind q fun a v s1 W1 H1 st ln R1 ra q1 => by
    split at q1
    · rename_i z
      have ra : v = .str z := ra
      refine ⟨z, ra, rfl, ?_⟩
      have q2 := Po.pure q1 R1 (kV_F (show Rep W1 (.bl ((tabAt t z).isSome != true)) (.bl ((tabAt t z).isSome != true)) from rfl))
      rwa [Bool.bne_true] at q2
    · exact False.elim q1⟩
/-- D[x] -/
theorem PD.ixTab (T : KTab X.K X.w d t) (he : PD kF X e fe) (hs : PlainIx e) (hg : Gl X x) (hm : X.mg x = some (.ref d)) (hdb : (x == ("__debug__" : Str)) = false) : PD kV X (.Subscript (.Name x p) e pos) (ktIx t fe) := fun Wx tk =>
  PE.imp (pe_ix ix_kdict (pe_glob hg hm (v := .ref d) rfl hdb) (he Wx tk) hs) fun s H Q ⟨W, s0, o, R, q⟩ => ⟨W, s0, o, R, Po.bind q fun a v s1 W1 H1 st ln R1 ra q1 => by
    split at q1
    · rename_i z
      have ra : v = .str z := ra
      split at q1
      · rename_i e1 he1
        obtain ⟨es, n, r, kd, h2, h3⟩ := T.ns z
        cases r with
        | none => rw [show tabAt t z = none from h3] at he1; cases he1
        | some u =>
          obtain ⟨e2, h4, h5⟩ := h3
          rw [he1] at h4
          cases h4
          obtain ⟨r1, r2⟩ := flatU_rel h5
          exact ⟨d, z, flatV' e1, rfl, ra, ⟨es, n, u, kd.at_, kd.lit, h2, r1⟩, Po.pure q1 R1 (kV_F (r2 W1))⟩
      · exact False.elim q1
    · exact False.elim q1⟩
theorem mt_kget (T : KTab X.K X.w d t) : MtR X "dict.get" (fun x xs H Q => ∃ z, x = .ref d ∧ xs = [.str z] ∧ ∀ v, (∀ W, Rep W ((tabAt t z).getD .non) v) → Q v H) := by
  intro pins s σ H x xs v us Q I rx rxs h
  obtain ⟨z, rfl, rfl, q⟩ := h
  cases rx
  cases rxs with
  | cons r rr =>
    cases rr
    obtain ⟨tk, rfl⟩ := r
    obtain ⟨es, n, r, kd, h2, h3⟩ := T.ns z
    have hm := PySem.W.mapOf_K (prog := X.prog) (w := X.w) I.kIn kd.at_ kd.lit
    refine call_meetsIn PySem.F.slot_dict_get hm.typeIs PySem.F.entry_dict_get (PySem.F.args_dict_get_2 _ _) (meets_dict_get (strKind X.prog X.w) d (strKind_is X.prog X.w z tk) kd.low) ⟨_, hm, ?_⟩
    rw [PySem.W.find_K kd.at_ h2]
    cases r with
    | none => exact ⟨.non, H, I.tok _, rfl, q .non fun W => by rw [show tabAt t z = none from h3]; rfl⟩
    | some u =>
      obtain ⟨e2, h4, h5⟩ := h3
      obtain ⟨r1, r2⟩ := flatU_rel h5
      exact ⟨flatV' e2, H, I.tok _, r1, q _ fun W => by rw [h4]; exact r2 W⟩
/-- D.get(x) -/
theorem PD.getTab {ff : S → Ou (List D)} (T : KTab X.K X.w d t) (ha : PAD kFs X [e] ff) (hg : Gl X x) (hm : X.mg x = some (.ref d)) (hdb : (x == ("__debug__" : Str)) = false) (hbase : attributeBase (.Name x p) "get" X.env (eval (.Name x p) X.env) = eval (.Name x p) X.env)
    (hfew : ((backTo cpos (starEach [e] X.env)).all (fun x => !x.1) && (backToKw cpos (keywordEach [] X.env)).all (fun x => x.1.isSome) && decide ([e].length + ([] : List Keyword).length + (if ([] : List Keyword).isEmpty then 0 else 1) < 30)) = true)
    (hline : (apos.endLine == cpos.line) = true) (hs : starEach [e] X.env = (false, eval e X.env) :: starEach [] X.env) (hplain : (backTo cpos (starEach [] X.env)).any (·.1) = false) :
    PD kV X (.Call (.Attribute (.Name x p) "get" apos) [e] [] cpos) (ktGet t ff) := fun Wx tk =>
  ⟨fun pins sh σ H Q I ⟨W, s0, o, R, q⟩ => by
    refine wpAny_Call_method_late hbase hfew hline rfl (thn ((pe_glob (v := .ref d) hg hm rfl hdb).run pins sh σ H (fun x H1 => x = .ref d ∧ tD kFs X.K X.mg Wx ff σ H1 fun vs H2 => ∃ z, vs = [.str z] ∧ ∀ v, (∀ W, Rep W ((tabAt t z).getD .non) v) → Q v H2) I ⟨rfl, W, s0, o, R, ?_⟩) fun v s1 hh => ?_)
    · refine Po.bind q fun ds vs s1 W1 H1 st ln R1 rs q1 => ?_
      split at q1
      · rename_i z
        obtain ⟨v, r0, rfl, rv, rn⟩ := (show Reps W1 [.str z] vs from rs)
        have rn : r0 = [] := rn
        subst rn
        have rv : v = .str z := rv
        subst rv
        exact ⟨z, rfl, fun v hv => Po.pure q1 R1 (kV_F (hv W1))⟩
      · exact False.elim q1
    · obtain ⟨x0, H1, I1, r1, rfl, q1⟩ := hh
      cases r1
      obtain ⟨es, n, kd, _⟩ := T.kd
      have hmp := PySem.W.mapOf_K (prog := X.prog) (w := X.w) I1.kIn kd.at_ kd.lit
      have hA := (ha Wx tk).run cpos pins s1 σ H1 _ I1 q1
      refine ⟨"dict", "dict.get", PySem.F.plainAttrs_dict, PySem.F.slot_dict_get, PySem.F.type_dict_get, hmp.typeIs, hmp.noDict, ?_⟩
      rw [hs] at hA ⊢
      refine Calls.callWith_builtin (by show (false || (backTo cpos (starEach [] X.env)).any (·.1)) = false; rw [hplain]; rfl) (Calls.evalArgs_plain (thn hA fun us s2 hh2 => ?_))
      obtain ⟨vs, H2, I2, r2, z, rfl, q2⟩ := hh2
      exact mt_kget T pins s2 σ H2 (.ref d) [.str z] (.ref d) us Q I2 rfl r2 ⟨z, rfl, rfl, q2⟩⟩
end
end TD

end
section
set_option maxRecDepth 100000
set_option maxHeartbeats 4000000
/-! TdY: repr of nested lists and tuples; objects of one's own that are shared. -/
namespace TD
open PySem L2 PyProof.Rows

mutual
def dataD : D → Option PyData
  | .non => some .none
  | .bl b => some (.bool b)
  | .int i => some (.int i)
  | .str x => some (.str x)
  | .nd .lst ds => match datasD ds with
    | some xs => some (.list xs)
    | none => none
  | .nd .tup ds => match datasD ds with
    | some xs => some (.tuple xs)
    | none => none
  | _ => none
def datasD : List D → Option (List PyData)
  | [] => some []
  | d :: ds => match dataD d, datasD ds with
    | some x, some xs => some (x :: xs)
    | _, _ => none
end
section
variable {X : Cx} {pins : List (Addr × Obj)} {σ : L2.St} {H : Hp} {s : Shared} {W : Wd}
mutual
theorem reads_rep (I : Inv X pins σ H s) (sm : Same W.F H) : ∀ {d : D} {v : V} {u : Value} {pd : PyData}, dataD d = some pd → Rep W d v → RelV v u → ∃ as, Reads s.heap u pd as
  | .non, v, u, pd, h, r, ru => by
    have r : v = .non := r
    subst r
    cases ru
    cases h
    exact ⟨_, .none⟩
  | .bl b, v, u, pd, h, r, ru => by
    have r : v = .bl b := r
    subst r
    cases ru
    cases h
    exact ⟨_, .bool b⟩
  | .int i, v, u, pd, h, r, ru => by
    have r : v = .int i := r
    subst r
    obtain ⟨t, rfl⟩ := ru
    cases h
    exact ⟨_, .int i t⟩
  | .str x, v, u, pd, h, r, ru => by
    have r : v = .str x := r
    subst r
    obtain ⟨t, rfl⟩ := ru
    cases h
    exact ⟨_, .str x t⟩
  | .nd .lst ds, v, u, pd, h, r, ru => by
    obtain ⟨a, rfl, xs, hF, rs⟩ := r
    cases ru
    unfold dataD at h
    split at h
    · rename_i ps e
      cases h
      obtain ⟨its, rv, ⟨o, n, h1, h2, _, h3⟩, _⟩ := I.list (SqL.of (sm _ _ hF))
      obtain ⟨as, q⟩ := reads_reps I sm e rs rv
      exact ⟨_, .list h1 h2 h3 (by simpa using q)⟩
    · cases h
  | .nd .tup ds, v, u, pd, h, r, ru => by
    obtain ⟨a, rfl, xs, hF, rs⟩ := r
    cases ru
    unfold dataD at h
    split at h
    · rename_i ps e
      cases h
      obtain ⟨its, rv, ⟨o, h1, h2, n, h3⟩, _⟩ := I.tuple (SqT.of (sm _ _ hF))
      obtain ⟨as, q⟩ := reads_reps I sm e rs rv
      exact ⟨_, .tuple h1 h2 h3 (by simpa using q)⟩
    · cases h
  | .nd .scr _, _, _, _, h, _, _ => by cases h
  | .nd .dct _, _, _, _, h, _, _ => by cases h
  | .nd (.ins _ _) _, _, _, _, h, _, _ => by cases h
  | .ref _, _, _, _, h, _, _ => by cases h
  | .exn _ _ _, _, _, _, h, _, _ => by cases h
theorem reads_reps (I : Inv X pins σ H s) (sm : Same W.F H) : ∀ {ds : List D} {vs : List V} {us : List Value} {ps : List PyData}, datasD ds = some ps → Reps W ds vs → Vals vs us → ∃ as, ReadsAll s.heap us ps as
  | [], vs, us, ps, h, r, ru => by
    have r : vs = [] := r
    subst r
    cases ru
    cases h
    exact ⟨_, .nil⟩
  | d :: ds, vs, us, ps, h, ⟨v, vs', e, r, rs⟩, ru => by
    subst e
    cases ru with
    | cons r1 r2 =>
      unfold datasD at h
      split at h
      · rename_i x xs e1 e2
        cases h
        obtain ⟨as, q⟩ := reads_rep I sm e1 r r1
        obtain ⟨bs, q2⟩ := reads_reps I sm e2 rs r2
        exact ⟨_, .cons q q2⟩
      · cases h
end
theorem reads_repH (I : Inv X pins σ H s) (sm : Same W.F H) {d : D} {v : V} {u : Value} {pd : PyData} (h : dataD d = some pd) (r : RepH W H d v) (ru : RelV v u) : ∃ as, Reads s.heap u pd as := by
  rcases r with r | ⟨a, o, rfl, hH, r⟩
  · exact reads_rep I sm h r ru
  · cases d with
    | nd k ds =>
      cases k with
      | lst =>
        obtain ⟨xs, rfl, rs⟩ := r
        cases ru
        unfold dataD at h
        split at h
        · rename_i ps e
          cases h
          obtain ⟨its, rv, ⟨o, n, h1, h2, _, h3⟩, _⟩ := I.list (SqL.of hH)
          obtain ⟨as, q⟩ := reads_reps I sm e rs rv
          exact ⟨_, .list h1 h2 h3 (by simpa using q)⟩
        · cases h
      | tup => exact False.elim r
      | scr => exact False.elim r
      | dct => cases h
      | ins _ _ => cases h
    | _ => exact False.elim r
end
/-- what repr may show: how long the text is counts -/
def showOk (p : PyData) : Bool := p.showable && !p.hasDict && decide (p.depth ≤ 60) && decide (p.shown.length ≤ sizeLine)
def reprG : List D → Option (D × Bool)
  | [d] => match dataD d with
    | some p => if showOk p = true then some (.str p.shown, false) else none
    | none => none
  | _ => none
def rRepr (X : Cx) : List V → Hp → VK → Prop := fun xs H Q => ∃ v W d p, xs = [v] ∧ Same W.F H ∧ RepH W H d v ∧ dataD d = some p ∧ showOk p = true ∧ Q (.str p.shown) H
theorem call_reprD {X : Cx} (hgd : X.A.guards = some []) (hu : X.A.units + 64 < cLine) : CallR X (.builtin "repr") (rRepr X) := by
  intro pins s σ H xs us Q I r hh
  obtain ⟨v, W, d, p, rfl, sm, rd, hd, ho, q⟩ := hh
  cases r with
  | cons ru rr =>
    cases rr
    obtain ⟨as, q1⟩ := reads_repH I sm hd rd ru
    unfold showOk at ho
    simp only [Bool.and_eq_true, decide_eq_true_eq, Bool.not_eq_true'] at ho
    obtain ⟨⟨⟨h1, h2⟩, h3⟩, h4⟩ := ho
    have hk := q1
    cases q1 with
    | none => exact PySem.P.repr_of_none ⟨.str _, _, I.tok _, ⟨_, by simp only [PyData.shown]; rfl⟩, q⟩
    | bool b => exact PySem.P.repr_of_bool ⟨.str _, _, I.tok _, ⟨_, by simp only [PyData.shown]; rfl⟩, q⟩
    | int i t => exact PySem.P.repr_of_int (by simpa [PyData.showable] using h1) ⟨.str _, _, I.tok _, ⟨_, by simp only [PyData.shown]; rfl⟩, q⟩
    | str x t => exact PySem.P.repr_of_str ⟨.str _, _, I.tok _, ⟨_, by simp only [PyData.shown]; rfl⟩, q⟩ (by simpa only [PyData.shown] using h4)
    | list a1 a2 a3 a4 => exact repr_of_reads' hk h1 (PyData.noDict_hsm h2) hgd (by omega) (fun _ _ e => e) (fun h' u tk k => ⟨.str _, _, I.kept (t' := tk) k, ⟨_, rfl⟩, q⟩) h4
    | tuple a1 a2 a3 a4 => exact repr_of_reads' hk h1 (PyData.noDict_hsm h2) hgd (by omega) (fun _ _ e => e) (fun h' u tk k => ⟨.str _, _, I.kept (t' := tk) k, ⟨_, rfl⟩, q⟩) h4
    | dict a1 a2 a3 a4 a5 => exact absurd h2 (by simp [PyData.hasDict])
theorem pr_repr {X : Cx} : PrimN X.K (rRepr X) reprG := fun W H ds vs Q a hK sm r e af => by
  unfold reprG at e
  split at e
  · rename_i d
    split at e
    · rename_i p hp
      split at e
      · rename_i ho
        cases e
        cases r with
        | cons r1 r2 =>
          cases r2
          exact ⟨_, W, d, p, rfl, sm, r1, hp, ho, af.flat sm rfl⟩
      · cases e
    · cases e
  · cases e

/-! ### a new object that is shared from now on -/
def hpz (o : Ou (D × Bool)) : Ou D := match o with
  | .ok a s => if a.2 = true then .ok (.ref s.h.length) { s with h := s.h ++ [a.1] } else .bad
  | .ex e s => .ex e s
  | .bad => .bad
theorem Wd.le_io {W : Wd} {a : Addr} : W.le { W with io := W.io ++ [a] } :=
  ⟨rfl, rfl, fun n b h => by
    show (W.io ++ [a])[n]? = some b
    rw [List.getElem?_append_left (List.getElem?_eq_some_iff.mp h).1]
    exact h, fun _ _ h => h⟩
theorem hpz_rel {W0 W : Wd} {O0 : Addr → Prop} {H0 H : Hp} {s : S} {t : L2.St} {d : D} {a : Addr} {o : HO} (st : Step W0 O0 H0 W (Ow s t) H) (R : Rel W s t H) (h0 : H0 a = none ∨ O0 a) (hF : W.F a = none) (hi : a ∉ W.io) (hO : ¬ Ow s t a) (hH : H a = some o) (ro : ORep W d o) :
    Step W0 O0 H0 { W with io := W.io ++ [a] } (Ow { s with h := s.h ++ [d] } t) H ∧ Rel { W with io := W.io ++ [a] } { s with h := s.h ++ [d] } t H ∧ Rep { W with io := W.io ++ [a] } (.ref s.h.length) (.ref a) := by
  have l : W.le { W with io := W.io ++ [a] } := Wd.le_io
  have e1 : (W.io ++ [a])[s.h.length]? = some a := by
    rw [← R.hr.len, List.getElem?_append_right (Nat.le_refl _), Nat.sub_self]
    rfl
  refine ⟨⟨st.le.trans l, st.keep, st.dom, st.newF, fun b hb => ?_, st.newO⟩, ⟨⟨R.hr.same, ?_, ?_, fun n e h => ?_⟩, R.len, fun i e h => ?_, fun i lk e h => ?_, R.one⟩, a, e1, rfl⟩
  · rcases List.mem_append.mp hb with hb | hb
    · exact st.newI b hb
    · rw [List.mem_singleton.mp hb]
      exact .inr h0
  · exact List.nodup_append.mpr ⟨R.hr.nd, (List.nodup_cons.mpr ⟨List.not_mem_nil, List.nodup_nil⟩), fun x hx y hy e => hi (by rw [List.mem_singleton.mp hy] at e; rw [← e]; exact hx)⟩
  · show (W.io ++ [a]).length = (s.h ++ [d]).length
    rw [List.length_append, List.length_append, R.hr.len]
    rfl
  · have h : (s.h ++ [d])[n]? = some e := h
    by_cases hn : n < s.h.length
    · rw [List.getElem?_append_left hn] at h
      obtain ⟨b, u, h1, h2, h3, h4⟩ := R.hr.at_ n e h
      exact ⟨b, u, l.io _ _ h1, h2, h3, h4.mono l⟩
    · have hl := (List.getElem?_eq_some_iff.mp h).1
      rw [List.length_append] at hl
      have en : n = s.h.length := by
        have : [d].length = 1 := rfl
        omega
      subst en
      rw [List.getElem?_append_right (Nat.le_refl _), Nat.sub_self] at h
      cases h
      exact ⟨a, o, e1, hF, hH, ro.mono l⟩
  · obtain ⟨v, h1, h2⟩ := R.fz i e h
    exact ⟨v, h1, h2.mono l⟩
  · obtain ⟨b, u, h1, h2, h3, h4, h5⟩ := R.own i lk e h
    refine ⟨b, u, h1, h2, fun z => ?_, h4, h5.mono l⟩
    rcases List.mem_append.mp z with z | z
    · exact h3 z
    · exact hO ⟨i, ⟨lk, e, h⟩, by rw [← List.mem_singleton.mp z]; exact h1⟩
theorem PD.hpz {X : Cx} {e : Expr} {f : S → Ou (D × Bool)} (h : PD kV X e f) : PD kF X e (fun s => TD.hpz (f s)) := fun Wx tk => PE.imp (h Wx tk) fun t H Q ⟨W, s, o, R, q⟩ => by
  refine ⟨W, s, o, R, ?_⟩
  dsimp only at q
  cases e : f s with
  | ok a s1 =>
    rw [e] at q
    obtain ⟨d, fr⟩ := a
    cases fr with
    | false => exact False.elim q
    | true =>
      intro v W' H' st ln R' rv
      obtain ⟨p, u, rfl, h0, hF, hi, hO, hH, ro⟩ := kV_ofT rv
      obtain ⟨st2, R2, rp⟩ := hpz_rel st R' h0 hF hi hO hH ro
      exact q _ _ H' st2 ln R2 rp
  | ex x s1 => rw [e] at q; exact q
  | bad => rw [e] at q; exact q
end TD

end
section
set_option maxRecDepth 100000
set_option maxHeartbeats 4000000
set_option maxHeartbeats 1000000
/-! TdZ: try, except C as n; the exception is a value. -/
namespace TD
open PySem L2 PyProof.Rows

/-- a caught exception's object, its class a value -/
def exvC (a : Addr) (cls : Value) (dd : Option Addr) : HO := .ext fun h => ∃ oe vs, h.get? a = some oe ∧ oe.cls = cls ∧ oe.dict = dd ∧ oe.data = .fields vs
/-- what the clause asks of the body's exceptions -/
def wasV (K : PySem.W.Frag) (cv : Value) (i : Nat) (ts : Addr → Value → Option Addr → TS) (Wo : WX) (D : Ends) : WX := fun cls dd t H => ∃ b, PySem.W.exmOne K cls cv = some b ∧
  (b = true → ∀ a, H a = none → ts a cls dd { D with nx := fun t' H' => D.nx (t'.set i none) H', bk := fun t' H' => D.bk (t'.set i none) H', ct := fun t' H' => D.ct (t'.set i none) H' } (t.set i (some (.ref a))) (upd H a (exvC a cls dd))) ∧ (b = false → Wo cls dd t H)
section
variable {X : Cx} {pins : List (Addr × Obj)} {σ : L2.St} {H : Hp} {s sI : Shared} {a : Addr}
theorem Inv.suiteV (J : Inv X pins σ H s) (a : Addr) : Inv (X.suite a (X.pn ++ pins)) [] σ H s where
  ok := J.ok.suite _ _
  os := J.os
  bare := J.bare
  base := J.base
  loc := J.loc
  cell := J.cell
  free := J.free
  freeC := J.freeC
  pin := fun p hp => J.pin p (by rwa [List.append_nil] at hp)
  hok := J.hok
  len := J.len
theorem Inv.unsuiteV {ps' : List (Addr × Obj)} (J : Inv (X.suite a (X.pn ++ pins)) ps' σ H s) (ok : X.Ok) : Inv X pins σ H s where
  ok := ok
  os := J.os
  bare := J.bare
  base := J.base
  loc := J.loc
  cell := J.cell
  free := J.free
  freeC := J.freeC
  pin := fun p hp => J.pin p (List.mem_append_left _ hp)
  hok := J.hok
  len := J.len
theorem Inv.trackV {oe : Obj} {vs : Array Value} {cls : Value} {dd : Option Addr} (J : Inv X pins σ H s) (ha : s.heap.get? a = some oe) (hc : oe.cls = cls) (hd : oe.dict = dd) (hv : oe.data = .fields vs) (na : H a = none) (nL : a ≠ X.env.locals)
    (n0 : ∀ o, X.s_0.heap.get? a ≠ some o) (np : ∀ p ∈ X.pn ++ pins, p.1 ≠ a) : Inv X pins σ (upd H a (exvC a cls dd)) s where
  ok := J.ok
  os := J.os
  bare := J.bare
  base := ⟨J.base.keep, J.base.slot, fun b o e n hx => (upd_ne (fun z => n0 o (by rw [← z]; exact e))).trans (J.base.free b o e n hx), J.base.there, fun b xs e => (upd_ne (ne_of_none (J.base.tups b xs e) na)).trans (J.base.tups b xs e),
    fun b o u e => (upd_ne (ne_of_none (J.base.frzs b o u e) na)).trans (J.base.frzs b o u e), fun b ps e => by
      obtain ⟨more, q⟩ := J.base.tbls b ps e
      exact ⟨more, (upd_ne (ne_of_none q na)).trans q⟩⟩
  loc := J.loc
  cell := J.cell
  free := (upd_ne (Ne.symm nL)).trans J.free
  freeC := fun x c e => by
    obtain ⟨v, o, ho, hdt⟩ := J.cell x c e
    refine (upd_ne fun z => ?_).trans (J.freeC x c e)
    rw [z, ha] at ho
    cases ho
    rw [hv] at hdt
    cases hdt
  pin := fun p hp => by
    obtain ⟨h1, h2, h3⟩ := J.pin p hp
    exact ⟨h1, (upd_ne (np p hp)).trans h2, h3⟩
  hok := J.hok.laidN (fun _ _ z => z) na ⟨⟨oe, vs, ha, hc, hd, hv⟩, ⟨oe, ha⟩, fun _ _ ⟨o, v, q, r⟩ k => ⟨o, v, k o q, r⟩⟩
  len := J.len
end
section
variable {X : Cx} {x n : Str} {cv : Value} {i : Nat} {body suite : List Stmt} {b0 : Stmt} {np pos pos' : Pos} {tb : WX → TS} {ts : Addr → Value → Option Addr → TS} {Wo : WX}
theorem ps_tryV (hs : X.stack = X.env :: X.outer) (hf : X.env.frame = some X.env.locals) (hex : X.ex = []) (hN : X.N.Nodup) (hi : X.N[i]? = some n) (hln : X.env.kindOf n = some .local) (hc : Names X x cv) (tk : Takes X Wo)
    (hb : ∀ (Wb : WX) (pn : List (Addr × Obj)) (xe : Value → Shared → Prop), Takes (X.tr pn xe) Wb → PassesOwn (model X.prog X.w) X.A X.env xe → PSs (X.tr pn xe) body (tb Wb))
    (hsu : ∀ (a : Addr) (cls : Value) (dd : Option Addr) (pn : List (Addr × Obj)), PSs (X.suite a pn) (b0 :: suite) (ts a cls dd)) :
    PS X (.Try body [.ExceptHandler (some (.Name x np)) (some n) (b0 :: suite) pos'] [] [] pos) (fun D t H => tb (wasV X.K cv i ts Wo D) D t H) := by
  refine ⟨fun pins s0 σ H D I0 hyp => ?_⟩
  have ok := I0.ok
  have hfr : X.A.frames = some (X.env :: X.outer) := by rw [← hs]; exact ok.frames
  refine wpAny_Try_except (wpAny_mono ((hb (wasV X.K cv i ts Wo D) (X.pn ++ pins) (fun e sa => wpAny (model X.prog X.w) X.A (noteFrame e X.env) (fun _ sb => wpAny (model X.prog X.w) X.A (setFlight e none) (fun _ sc =>
    wpAny (model X.prog X.w) X.A (handleBy e X.env [.ExceptHandler (some (.Name x np)) (some n) (b0 :: suite) pos']) (SP X pins D) X.xe sc) X.xe sb) X.xe sa) (fun u s' xx => ?_) PassesOwn.looking).run [] s0 σ H D (I0.toTry _) hyp) (fun f s1 hsp => ?_) fun e s1 he => he)
  · obtain ⟨a, B, sI, pq, t1, H1, cls, dd, rfl, Jx, nb, up, sky, na, os, ag, b, hb1, hyes, hno⟩ := xx
    have J : Inv X pins t1 H1 sI := Jx.ofTry ok
    rw [hs] at sky
    show wpAny (model X.prog X.w) X.A (noteFrame (.ref a) X.env) _ _ _
    refine Sky.land Zc.steady hfr hf sky fun h3 fl3 up3 => ?_
    have J3 : Inv X pins t1 H1 { s' with heap := h3 } := J.landed nb fl3.1 (up.trans up3) os ag
    obtain ⟨oe3, vs3, he3, hz3, hd3⟩ := fl3.there
    have Ba : B.get? a = none := fl3.2.1
    have nfr : a ∉ frs (X.env :: X.outer) := fun hm => by
      obtain ⟨_, o', e', hnf⟩ := fl3.2.2.1.mem hm
      rw [he3] at e'
      cases e'
      exact hnf _ hd3
    have nL : a ≠ X.env.locals := fun z => nfr (List.mem_filterMap.mpr ⟨_, List.mem_cons_self, by rw [z]; exact hf⟩)
    have old : ∀ o, sI.heap.get? a ≠ some o := fun o e => by
      have q := nb a o e (by rw [hs]; exact nfr)
      rw [Ba] at q
      cases q
    have n0 : ∀ o, X.s_0.heap.get? a ≠ some o := fun o e => by
      obtain ⟨o', q⟩ := J.base.there a o e (by rw [hex]; exact List.not_mem_nil)
      exact old o' q
    have np' : ∀ p ∈ X.pn ++ pins, p.1 ≠ a := fun p hp z => old p.2 (by rw [← z]; exact (J.pin p hp).1)
    have S3 := Inv.suiteV J3 a
    refine wpAny_handleBy_cons (codeAny_handlers_test ?_) (by intro q; cases q)
    have LT : PySem.W.Looks (model X.prog X.w) h3 (typeOf (.ref a)) cls := fun A' Q' E' s'' kk q => wpAny_typeOf_ref (kk _ _ he3) (by rw [hz3.1]; exact q)
    have LM := PySem.W.exm_one (M := model X.prog X.w) J3.kIn LT hb1
    have ask : ∀ {Q : Value → Shared → Prop} {E : Value → Shared → Prop}, Q cv { s' with heap := h3 } → wpAny (model X.prog X.w) (X.A.mark (some (.ref a))) (eval (.Name x np) X.env) Q E { s' with heap := h3 } := fun {Q E} q => by
      obtain ⟨hg, hdbg, hm | ⟨hm, hv, hnn⟩⟩ := hc
      · exact ld_glob (X := X.suite a (X.pn ++ pins)) S3 hg hm q hdbg
      · exact ld_blt (X := X.suite a (X.pn ++ pins)) S3 hg hm hv q hnn hdbg
    refine ask (LM.here ?_)
    cases b with
    | true =>
      refine codeAny_handlers_suite_as (HandSPX.lands_againZ fl3 fun h4 fl4 up4 => ?_)
      have J4 : Inv X pins t1 H1 { s' with heap := h4 } := J.landed nb fl4.1 ((up.trans up3).trans up4) os ag
      obtain ⟨oe4, vs4, he4, hz4, hd4⟩ := fl4.there
      have S4 := Inv.suiteV (Inv.trackV J4 he4 hz4.1 hz4.2 hd4 na nL n0 np') a
      refine store_ok (X := X.suite a (X.pn ++ pins)) (v := .ref a) S4 hN hi (.inl hln) rfl (fun s5 S5 => ?_) (.inr hln)
      refine wpAny_mono ((hsu a cls dd (X.pn ++ pins)).run [] s5 _ _ _ S5 (hyes rfl a na)) (fun f s6 hsp => ?_) fun _ _ z => False.elim z
      have leave : ∀ {t6 : L2.St} {H6 : Hp} {Q : Shared → Prop}, Inv (X.suite a (X.pn ++ pins)) [] t6 H6 s6 → (∀ s7, Inv X pins (t6.set i none) H6 s7 → Q s7) → wpAny (model X.prog X.w) X.A (do bindName X.env n .none; unbindBehindTheSuite X.env n pos') (fun _ s7 => Q s7) X.xe s6 := fun S6 hq => gone_ok (Inv.unsuiteV S6 ok) hN hi hln hq
      cases f with
      | ret u =>
        obtain ⟨v6, t6, H6, S6, r6, q6⟩ := hsp
        exact leave S6 fun s7 J7 => ⟨v6, _, H6, J7, r6, q6⟩
      | next => obtain ⟨t6, H6, S6, q6⟩ := hsp; exact leave S6 fun s7 J7 => ⟨_, H6, J7, q6⟩
      | brk => obtain ⟨t6, H6, S6, q6⟩ := hsp; exact leave S6 fun s7 J7 => ⟨_, H6, J7, q6⟩
      | cont => obtain ⟨t6, H6, S6, q6⟩ := hsp; exact leave S6 fun s7 J7 => ⟨_, H6, J7, q6⟩
    | false =>
      show wpAny _ X.A (handleBy (.ref a) X.env []) _ _ _
      refine wpAny_handleBy_nil ?_
      obtain ⟨k1, k2, k3, oe, vs, T, oT, ts', he, hz, hd, h1, hr⟩ := id fl3
      unfold PySem.passOn
      refine wpAny_bind (wpAny_field he hd h1 ?_)
      rw [if_neg (show ¬ ((Value.ref T == Value.none) = true) by simp)]
      have fin : wpAny (model X.prog X.w) X.A (setFlight (.ref a) X.env.frame) (fun _ s4 => wpAny (model X.prog X.w) X.A (throw (.ref a) : Sem Flow) (SP X pins D) X.xe s4) X.xe { s' with heap := h3 } := by
        rw [hf]
        refine HandSPX.setFlight_upZ fl3 fun h4 hh4 up4 => wpAny_throw (tk _ _ ⟨a, B, sI, pins, t1, H1, cls, dd, rfl, J, nb, (up.trans up3).trans up4, .inr (.inr ?_), na, os, ag, hno rfl⟩)
        rw [hs]
        exact hh4
      first
        | exact wpAny_bind (wpAny_pure (wpAny_bind fin))
        | exact wpAny_bind fin
  · cases f with
    | next => obtain ⟨t1, H1, Jn, q⟩ := hsp; exact wpAny_execs_nil ⟨t1, H1, Jn.ofTry ok, q⟩
    | brk => obtain ⟨t1, H1, Jn, q⟩ := hsp; exact ⟨t1, H1, Jn.ofTry ok, q⟩
    | cont => obtain ⟨t1, H1, Jn, q⟩ := hsp; exact ⟨t1, H1, Jn.ofTry ok, q⟩
    | ret u => obtain ⟨v, t1, H1, Jn, r, q⟩ := hsp; exact ⟨v, t1, H1, Jn.ofTry ok, r, q⟩
end
end TD

end
section
set_option maxRecDepth 100000
set_option maxHeartbeats 4000000
/-! TeA: try .. except C as n by its mirror; fields and classes of a caught exception. -/
namespace TD
open PySem L2 PyProof.Rows

def S.lk (s : S) (i : Nat) : Bool := match s.r[i]? with
  | some (.own true _) => true
  | some _ => false
  | none => true
/-- ends of the suite: the name goes -/
def goneAt (i : Nat) : OutS → OutS
  | .nx s => if s.lk i = true then .bad else .nx (s.set i .un)
  | .bk s => if s.lk i = true then .bad else .bk (s.set i .un)
  | .ct s => if s.lk i = true then .bad else .ct (s.set i .un)
  | .rt d fr s => .rt d fr s
  | _ => .bad
/-- xs: the classes that may come, and whether the clause takes them -/
def sTryAs (xs : List (Str × Bool)) (i : Nat) (fb fs : S → OutS) : S → OutS := fun s => match fb s with
  | .ex e s1 => match xs.lookup e.c with
    | some true => if s1.lk i = true then .bad else goneAt i (fs (s1.set i (.fz (.exn e.c e.fs e.ds))))
    | some false => .ex e s1
    | none => .bad
  | o => o
theorem lk_not {s : S} {i : Nat} (h : s.lk i = false) : (∀ d, s.r[i]? ≠ some (.own true d)) ∧ i < s.r.length := by
  unfold S.lk at h
  split at h
  · cases h
  · rename_i x hx e
    refine ⟨fun d z => hx d (by rw [e] at z; exact Option.some.inj z), (List.getElem?_eq_some_iff.mp e).1⟩
  · cases h
theorem own_gone {s : S} {t : L2.St} {i j : Nat} {a : Addr} (h : Own (s.set i .un) (t.set i none) j a) : Own s t j a ∧ j ≠ i := by
  obtain ⟨⟨lk, d, h1⟩, h2⟩ := h
  have h1 : (s.r.set i .un)[j]? = some (.own lk d) := h1
  rcases getD_set h1 with ⟨_, e⟩ | ⟨e, e1⟩
  · cases e
  · rcases getD_set h2 with ⟨e', _⟩ | ⟨_, e2⟩
    · exact absurd e' e
    · exact ⟨⟨⟨lk, d, e1⟩, e2⟩, e⟩
theorem Rel.gone {W : Wd} {s : S} {t : L2.St} {H : Hp} {i : Nat} (R : Rel W s t H) : Rel W (s.set i .un) (t.set i none) H where
  hr := R.hr
  len := by rw [List.length_set]; exact (List.length_set ..).trans R.len
  fz := fun j d q => by
    have q : (s.r.set i .un)[j]? = some (.fz d) := q
    rcases getD_set q with ⟨_, e⟩ | ⟨e, q⟩
    · cases e
    · obtain ⟨w, h1, h2⟩ := R.fz j d q
      exact ⟨w, by rw [List.getElem?_set_ne (Ne.symm e)]; exact h1, h2⟩
  own := fun j lk d q => by
    have q : (s.r.set i .un)[j]? = some (.own lk d) := q
    rcases getD_set q with ⟨_, e⟩ | ⟨e, q⟩
    · cases e
    · obtain ⟨a, o, h1, h2⟩ := R.own j lk d q
      exact ⟨a, o, by rw [List.getElem?_set_ne (Ne.symm e)]; exact h1, h2⟩
  one := fun j k a h1 h2 => R.one j k a (own_gone h1).1 (own_gone h2).1
theorem Step.gone {W0 W : Wd} {O0 : Addr → Prop} {s : S} {t : L2.St} {H0 H : Hp} {i : Nat} (st : Step W0 O0 H0 W (Ow s t) H) : Step W0 O0 H0 W (Ow (s.set i .un) (t.set i none)) H :=
  ⟨st.le, st.keep, st.dom, st.newF, st.newI, fun a ⟨j, h⟩ => st.newO a ⟨j, (own_gone h).1⟩⟩
section
variable {X : Cx} {x n : Str} {C : Addr} {i : Nat} {body suite : List Stmt} {b0 : Stmt} {np pos pos' : Pos} {fb fs : S → OutS} {xs : List (Str × Bool)}
theorem PSD.tryAs (hs : X.stack = X.env :: X.outer) (hf : X.env.frame = some X.env.locals) (hex : X.ex = []) (hN : X.N.Nodup) (hi : X.N[i]? = some n) (hln : X.env.kindOf n = some .local) (hc : Names X x (.ref C))
    (hx : ∀ c b, xs.lookup c = some b → ∀ Ce, X.mg c = some (.ref Ce) → PySem.W.exmOne X.K (.ref Ce) (.ref C) = some b)
    (hb : ∀ (pn : List (Addr × Obj)) (xe : Value → Shared → Prop), PassesOwn (model X.prog X.w) X.A X.env xe → PSsD (X.tr pn xe) body fb) (hsu : ∀ (a : Addr) (pn : List (Addr × Obj)), PSsD (X.suite a pn) (b0 :: suite) fs) :
    PSD X (.Try body [.ExceptHandler (some (.Name x np)) (some n) (b0 :: suite) pos'] [] [] pos) (sTryAs xs i fb fs) := fun Wx tk =>
  PS.imp (ps_tryV (tb := fun Wb => tS X.K X.mg Wb fb) (ts := fun a cls dd => tS X.K X.mg (fun _ _ _ _ => False) fs) hs hf hex hN hi hln hc tk (fun Wb pn xe tkb pa => hb pn xe pa Wb tkb)
    (fun a cls dd pn => hsu a pn _ fun u s' ⟨_, _, _, _, _, _, _, _, _, _, _, _, _, _, _, _, w⟩ => False.elim w)) fun D t H ⟨W, s, o, R, q⟩ => ⟨W, s, o, R, by
    unfold sTryAs at q
    cases eb : fb s with
    | nx s1 => rw [eb] at q; exact q
    | rt d fr s1 => rw [eb] at q; exact q
    | bk s1 => rw [eb] at q; exact q
    | ct s1 => rw [eb] at q; exact q
    | bad => rw [eb] at q; exact q
    | ex e s1 =>
      rw [eb] at q
      dsimp only at q
      intro c dd W1 t1 H1 st ln R1 rx
      have rx' := rx
      obtain ⟨Ce, rfl, hcl, hdd⟩ := rx
      have hmg : X.mg e.c = some (.ref Ce) := by
        have z := (o.le st.le).cl
        rw [z] at hcl
        unfold clOf at hcl
        split at hcl
        · rename_i C' e1
          cases hcl
          exact e1
        · cases hcl
      cases ek : xs.lookup e.c with
      | none => rw [ek] at q; exact False.elim q
      | some b =>
        rw [ek] at q
        refine ⟨b, hx _ _ ek Ce hmg, fun eb' a na => ?_, fun eb' => ?_⟩
        · subst eb'
          dsimp only at q
          split at q
          · exact False.elim q
          · rename_i hlk
            have hlk : s1.lk i = false := by cases h : s1.lk i with | true => exact absurd h hlk | false => rfl
            obtain ⟨nl, hil⟩ := lk_not hlk
            have g : Grow W1 H1 (W1.fr a (exvC a (.ref Ce) dd)) (upd H1 a (exvC a (.ref Ce) dd)) := Grow.fr R1.hr.same na
            have R2 := g.rel R1
            have rp : Rep (W1.fr a (exvC a (.ref Ce) dd)) (.exn e.c e.fs e.ds) (.ref a) := by
              refine ⟨a, Ce, dd, rfl, by rw [g.le.cl]; exact hcl, upd_same, hdd.imp id ?_⟩
              rintro ⟨dx, ys, h1, h2, h3, h4⟩
              exact ⟨dx, ys, h1, g.le.F _ _ h2, h3, h4.mono g.le⟩
            have st2 := st.trans g.step
            have rv : kV.rp (W1.fr a (exvC a (.ref Ce) dd)) s1 t1 (New s t H) (upd H1 a (exvC a (.ref Ce) dd)) (.exn e.c e.fs e.ds, false) (.ref a) := kV_F rp
            have R3 := R2.put rv hil
            have st3 := st2.put (i := i) rv fun a z => z.symm
            have ln3 : Lent s (s1.set i (slOf (.exn e.c e.fs e.ds) false)) t (t1.set i (some (.ref a))) := ln.put nl
            refine ⟨_, _, (o.le st3.le), R3, ?_⟩
            have q : PoS W s t H Wx D (goneAt i (fs (s1.set i (slOf (.exn e.c e.fs e.ds) false)))) := q
            unfold goneAt at q
            cases ef : fs (s1.set i (slOf (.exn e.c e.fs e.ds) false)) with
            | nx s3 =>
              rw [ef] at q
              intro W' t' H' st' ln' R'
              dsimp only at q
              split at q
              · exact False.elim q
              · rename_i h3
                have h3 : s3.lk i = false := by cases h : s3.lk i with | true => exact absurd h h3 | false => rfl
                exact q W' (t'.set i none) H' (st3.trans st').gone ((ln3.trans ln').put (lk_not h3).1) R'.gone
            | bk s3 =>
              rw [ef] at q
              intro W' t' H' st' ln' R'
              dsimp only at q
              split at q
              · exact False.elim q
              · rename_i h3
                have h3 : s3.lk i = false := by cases h : s3.lk i with | true => exact absurd h h3 | false => rfl
                exact q W' (t'.set i none) H' (st3.trans st').gone ((ln3.trans ln').put (lk_not h3).1) R'.gone
            | ct s3 =>
              rw [ef] at q
              intro W' t' H' st' ln' R'
              dsimp only at q
              split at q
              · exact False.elim q
              · rename_i h3
                have h3 : s3.lk i = false := by cases h : s3.lk i with | true => exact absurd h h3 | false => rfl
                exact q W' (t'.set i none) H' (st3.trans st').gone ((ln3.trans ln').put (lk_not h3).1) R'.gone
            | rt d fr s3 =>
              rw [ef] at q
              intro v W' t' H' st' ln' R' rv'
              exact q v W' t' H' (st3.trans st') (ln3.trans ln') R' (kV.base (fun y z => z.elim (fun z => .inl (st3.back z)) fun z => (st3.newO y z).elim .inr .inl) rv')
            | ex e3 s3 => rw [ef] at q; exact False.elim q
            | bad => rw [ef] at q; exact False.elim q
        · subst eb'
          exact q (.ref Ce) dd W1 t1 H1 st ln R1 rx'⟩
end
/-! ### its class and fields -/
/-- at[c] of xs: is it an instance of that class -/
def exIsG (xs : List (Str × Bool)) : D → Option (D × Bool)
  | .exn c _ _ => match xs.lookup c with
    | some b => some (.bl b, false)
    | none => none
  | .non => some (.bl false, false)
  | _ => none
def exFldG (f : Str) : D → Option (D × Bool)
  | .exn _ fs ds => match (fs.zip ds).lookup f with
    | some d => some (d, false)
    | none => none
  | _ => none
end TD

end
section
set_option maxRecDepth 100000
set_option maxHeartbeats 4000000
/-! TeB: isinstance of a caught exception, its fields. -/
namespace TD
open PySem L2 PyProof.Rows

theorem exv_at {X : Cx} {pins : List (Addr × Obj)} {σ : L2.St} {H : Hp} {s : Shared} {a C : Addr} {dd : Option Addr} (I : Inv X pins σ H s) (h : H a = some (exv a C dd)) (hd : dd = none ∨ ∃ dx fs, dd = some dx ∧ H dx = some (.xd fs)) : ∃ oe od, PySem.W.InstAt s.heap a oe C od := by
  obtain ⟨⟨oe, vs, h1, h2, h3, h4⟩, _, _⟩ := I.hok a _ h
  have no : PySem.W.notCls oe = true := by
    unfold PySem.W.notCls
    rw [h4]
  rcases hd with rfl | ⟨dx, fs, rfl, hx⟩
  · exact ⟨oe, none, h1, h2, no, by rw [h3]; trivial⟩
  · obtain ⟨mA, ⟨od, es, ep, e, c⟩, r⟩ := I.hok dx _ hx
    exact ⟨oe, some od, h1, h2, no, by rw [h3]; exact e⟩
/-- isinstance(e, c), e a caught exception of the class D -/
theorem call_isX {X : Cx} : CallR X (.builtin "isinstance") (fun xs H Q => ∃ a D dd c cv b, xs = [.ref a, c] ∧ H a = some (exv a D dd) ∧ (dd = none ∨ ∃ dx fs, dd = some dx ∧ H dx = some (.xd fs)) ∧ ExcC X.K D ∧ ClsV c cv ∧ PySem.W.kitOne X.K (.ref D) cv = some b ∧ Q (.bl b) H) := by
  intro pins s σ H xs us Q I r h
  obtain ⟨a, D, dd, c, cv, b, rfl, ha, hd, C, hc, e, q⟩ := h
  cases r with
  | cons rx rr =>
    cases rr with
    | cons rt rr =>
      cases rr
      cases rx
      obtain ⟨oe, od, J⟩ := exv_at I ha hd
      have hcl : (PySem.W.clsIn X.K D).isSome = true := by
        obtain ⟨cd, hcd, _⟩ := PySem.W.any_some C.hd
        rw [hcd]
        rfl
      have fin : ∀ u, u = cv → wpAny (model X.prog X.w) X.A (call (.builtin "isinstance") [.ref a, u]) (EP X pins σ Q) X.xe s := fun u eu => by
        subst eu
        exact PySem.W.kia_one (PySem.W.kitx_exc hcl C.hg C.hk C.hs C.ha C.hn C.ht C.hm) I.kIn J e (fun z => nomatch z) fun tk => ⟨.bl b, H, I.kept (t' := tk) fun _ _ z => z, rfl, q⟩
      cases hc with
      | ty n => exact fin _ rt
      | own C' => exact fin _ rt
/-- xs: by the exception's class; everything else is none -/
def eIsX (xs : List (Str × Bool)) (fa : S → Ou Ar) : S → Ou (D × Bool) := fun s => (fa s).bind fun x s1 => match s1.look x with
  | some (.exn c _ _) => match xs.lookup c with
    | some b => .ok (.bl b, false) s1
    | none => .bad
  | some d => match tyName d with
    | some _ => .ok (.bl false, false) s1
    | none => .bad
  | none => .bad
theorem RepH.exn {W : Wd} {H : Hp} {c : Str} {fs : List Str} {ds : List D} {v : V} (sm : Same W.F H) (h : RepH W H (.exn c fs ds) v) : ∃ a C dd, v = .ref a ∧ W.cl c = some C ∧ H a = some (exv a C dd) ∧ ((ds = [] ∧ dd = none) ∨ ∃ dx xs, dd = some dx ∧ H dx = some (.xd (fs.zip xs)) ∧ xs.length = fs.length ∧ Reps W ds xs) := by
  rcases h with h | ⟨a, o, _, _, r⟩
  · obtain ⟨a, C, dd, e, h1, h2, h3⟩ := h
    exact ⟨a, C, dd, e, h1, sm _ _ h2, h3.imp id fun ⟨dx, xs, e1, e2, e3, e4⟩ => ⟨dx, xs, e1, sm _ _ e2, e3, e4⟩⟩
  · exact False.elim r
theorem cl_mg {W : Wd} {K : PySem.W.Frag} {mg : Str → Option Value} {c : Str} {C : Addr} (o : W.of K mg) (h : W.cl c = some C) : mg c = some (.ref C) := by
  rw [o.cl] at h
  unfold clOf at h
  split at h
  · rename_i C' e
    cases h
    exact e
  · cases h
section
variable {X : Cx} {e : Expr} {p q pos : Pos} {n : Str} {xU : Str} {cvv : V} {cv : Value} {fa : S → Ou Ar} {xs : List (Str × Bool)}
theorem PD.isX (hg : Gl X "isinstance") (hm : X.mg "isinstance" = none) (ha : PD kA X e fa) (hU : PE X (.Name xU q) (tC cvv)) (hcv : ClsV cvv cv) (hx : ∀ c b, xs.lookup c = some b → ∀ Ce, X.mg c = some (.ref Ce) → ExcC X.K Ce ∧ PySem.W.kitOne X.K (.ref Ce) cv = some b)
    (hT : ∀ T ∈ tyNames, PySem.W.kitOne X.K (.type T) cv = some false) (h1 : starEach [e, .Name xU q] X.env = (false, eval e X.env) :: starEach [.Name xU q] X.env) (h2 : (backTo pos (starEach [.Name xU q] X.env)).any (·.1) = false) (h3 : starEach [.Name xU q] X.env = (false, eval (.Name xU q) X.env) :: starEach [] X.env) :
    PD kV X (.Call (.Name "isinstance" p) [e, .Name xU q] [] pos) (eIsX xs fa) := fun Wx tk =>
  PE.imp (pe_callB (call_isX.or call_isi) hg hm (by decide +kernel) (pa_cons (ha Wx tk) (pa_cons hU pa_nil h3) h1) (by decide) (by decide) h1 h2) fun t H Q ⟨W, s, o, R, q⟩ => ⟨W, s, o, R, Po.bind q fun x v s1 W1 H1 st ln R1 rx q1 => by
    split at q1
    · rename_i c fs ds el
      obtain ⟨a, C, dd, rfl, hC, hH, hdd⟩ := (R1.look rx el).exn R1.hr.same
      split at q1
      · rename_i b eb
        obtain ⟨x1, x2⟩ := hx c b eb C (cl_mg (o.le st.le) hC)
        exact .inl ⟨a, C, dd, cvv, cv, b, rfl, hH, hdd.imp And.right fun ⟨dx, ys, e1, e2, _, _⟩ => ⟨dx, _, e1, e2⟩, x1, hcv, x2, (Po.aft R1 q1).flat (v := .bl b) R1.hr.same rfl⟩
      · exact False.elim q1
    · rename_i d hne el
      split at q1
      · rename_i T eT
        exact .inr ⟨v, cvv, .type T, cv, false, rfl, hcv, tyX_rep R1.hr.same (R1.look rx el) eT, hT T (tyName_mem eT), (Po.aft R1 q1).flat (v := .bl false) R1.hr.same rfl⟩
      · exact False.elim q1
    · exact False.elim q1⟩
/-- e.f, e of one of these classes -/
def eFldX (cs : List Str) (f : Str) (fa : S → Ou Ar) : S → Ou (D × Bool) := fun s => (fa s).bind fun x s1 => match s1.look x with
  | some (.exn c fs ds) => if cs.contains c = true then (match (fs.zip ds).lookup f with
    | some d => .ok (d, false) s1
    | none => .bad) else .bad
  | _ => .bad
theorem zip_look {W : Wd} {f : Str} {d : D} : ∀ {fs : List Str} {ds : List D} {xs : List V}, (fs.zip ds).lookup f = some d → Reps W ds xs → ∃ v, (fs.zip xs).lookup f = some v ∧ Rep W d v
  | [], _, _, h, _ => by cases h
  | _ :: _, [], _, h, _ => by cases h
  | g :: fs, y :: ds, _, h, ⟨v, xs, rfl, r, rs⟩ => by
    rw [List.zip_cons_cons, List.lookup_cons] at h ⊢
    split at h
    · rename_i eb
      cases h
      exact ⟨v, rfl, r⟩
    · rename_i eb
      exact zip_look h rs
theorem PD.fldX {f : Str} {cs : List Str} (ha : PD kA X e fa) (hT : ∀ c, cs.contains c = true → ∀ C, X.mg c = some (.ref C) → XfC X.K C ∧ PySem.W.findIn X.K (.ref C) f = some none) (hb : attributeBase e f X.env (eval e X.env) = eval e X.env) :
    PD kV X (.Attribute e f pos) (eFldX cs f fa) := fun Wx tk => by
  constructor
  intro pins s0 σ H Q I ⟨W, s, o, R, q⟩
  refine attr_of hb (thn ((ha Wx tk).run pins s0 σ H (fun y H1 => ∃ a C dx fs v, y = .ref a ∧ H1 a = some (exv a C (some dx)) ∧ XfC X.K C ∧ PySem.W.findIn X.K (.ref C) f = some none ∧ H1 dx = some (.xd fs) ∧ fs.lookup f = some v ∧ Q v H1) I ⟨W, s, o, R, ?_⟩) fun u s1 hh => ?_)
  · refine Po.bind q fun x v s1 W1 H1 st ln R1 rx q1 => ?_
    split at q1
    · rename_i c fs ds el
      obtain ⟨a, C, dd, rfl, hC, hH, hdd⟩ := (R1.look rx el).exn R1.hr.same
      split at q1
      · rename_i ec
        split at q1
        · rename_i d ed
          obtain ⟨t1, t2⟩ := hT c ec C (cl_mg (o.le st.le) hC)
          rcases hdd with ⟨e1, _⟩ | ⟨dx, ys, rfl, e2, e3, e4⟩
          · rw [e1, List.zip_nil_right] at ed
            cases ed
          · obtain ⟨w, e5, e6⟩ := zip_look ed e4
            exact ⟨a, C, dx, _, w, rfl, hH, t1, t2, e2, e5, Po.pure q1 R1 (kV_F e6)⟩
        · exact False.elim q1
      · exact False.elim q1
    · exact False.elim q1
  · obtain ⟨y, H1, I1, r1, a, C, dx, fs, v, rfl, hH, T, hno, hx', hl, q1⟩ := hh
    cases r1
    obtain ⟨⟨ob, vs, h1, h2, h3, h4⟩, _, _⟩ := I1.hok a _ hH
    obtain ⟨mA, hns, hr⟩ := I1.hok dx _ hx'
    obtain ⟨od, ho, hlk⟩ := lookIn_ns hns
    obtain ⟨u, hu, ru⟩ := RelO.some_of (v := v) (o := mA f) (by rw [← hl]; exact hr f)
    have no : PySem.W.notCls ob = true := by
      unfold PySem.W.notCls
      rw [h4]
    have J : PySem.W.InstAt s1.heap a ob C (some od) := ⟨h1, h2, no, by rw [h3]; exact ho⟩
    exact HandSPX.exc_get I1.kIn J T.ga T.gg T.exC (PySem.W.findObj_own T.hdC hno rfl (by rw [hlk, hu])) (handed_of ru) ⟨v, H1, I1.tok _, ru, q1⟩
end
end TD

end
section
set_option maxRecDepth 100000
set_option maxHeartbeats 4000000
/-! TeC: the law's end, facts of the top. -/
namespace TD
open PySem L2 PyProof.Rows

/-! ### the end -/
theorem law_callG {P : Program} {w : World} {K : PySem.W.Frag} {mg mb : Str → Option Value} {k : Nat} {fa a : Addr} {fd : FuncData} {x : Str} {sp : Sp} {s1 : Shared} {vs : List Value} {ns : List Int} (KX : K.In s1.heap) (hns : s1.heap.Ns mainGlobals mg) (hb : s1.heap.Ns builtinsNs mb)
    (hbb : ∀ x : Str, x ≠ "__name__" → mb x = bootBuiltins x) (hlim : s1.heap.NoLimit) (hg : s1.gens = #[]) (ha : s1.heap.get? a = some { cls := .type "list", data := .seq vs.toArray }) (hi : IntsAre vs ns) (hl : ns.length ≤ sizeLine) (hr : Room k callerA)
    (F : ∀ base : Heap, K.In base → base.Ns mainGlobals mg → FnG P w K mg base k fa fd [x] sp) (hbind : ∀ (s : Shared) (u : Value), BindsTo s fd ⟨[u], []⟩ [(x, u)]) (hka : K.lookup a = none)
    (hsp : ∀ H : Hp, H a = some (.frz { cls := .type "list", data := .seq vs.toArray } (.lst (ns.map V.int))) → (∀ b, b ≠ a → H b = none) → sp [.ref a] H (fun v _ => v = .bl true) fun _ _ _ => False) :
    codeAny (model P w) callerA (.call (.ref fa) ⟨[.ref a], []⟩) (fun r s' => r = .ok (.ret (.bool true)) ∧ OldK s1.heap s'.heap ∧ s'.os = s1.os ∧ AllBare s'.gens) s1 := by
  have rv := vals_ints hi
  obtain ⟨H, hH⟩ : ∃ H : Hp, H = fun b => if b = a then some (.frz { cls := .type "list", data := .seq vs.toArray } (.lst (ns.map V.int))) else none := ⟨_, rfl⟩
  have Ha : H a = some (.frz { cls := .type "list", data := .seq vs.toArray } (.lst (ns.map V.int))) := by rw [hH]; exact if_pos rfl
  have Hn : ∀ b, b ≠ a → H b = none := fun b hb => by rw [hH]; exact if_neg hb
  have hok : HOk P w H s1.heap := fun b u e => by
    by_cases eb : b = a
    · rw [eb, Ha] at e
      cases e
      rw [eb]
      exact ⟨ha, by rw [List.length_map]; exact hl, vs, _, rv, ha⟩
    · rw [Hn b eb] at e
      cases e
  have nsN : ∀ {b : Addr} {m : Str → Option Value}, s1.heap.Ns b m → (hidT s1.heap H).Ns b m := fun {b m} ⟨o, es, ep, e, d, r⟩ => by
    have eb : b ≠ a := fun z => by
      rw [z, ha] at e
      cases e
      have d' : Data.seq vs.toArray _ = Data.dict es ep := d
      cases d'
    exact ⟨o, es, ep, hidT_get e (Hn b eb), d, r⟩
  have hKb : K.In (hidT s1.heap H) := fun b o e => hidT_get (KX b o e) (Hn b fun z => by rw [z, hka] at e; cases e)
  have hM : Mod K mg (hidT s1.heap H) := ⟨hKb, nsN hns, ⟨mb, nsN hb, hbb⟩, let ⟨mc, q1, q2⟩ := hlim; ⟨mc, nsN q1, q2⟩⟩
  have e0 : Env0 P w K mg (hidT s1.heap H) callerA [] s1 H := ⟨rfl, hM, fun b o e => of_hidT e, Nat.le_of_eq (hidT_size _ _), trivial, fun b hb => absurd (show b ∈ ([] : List Addr) from hb) List.not_mem_nil, hok, .of_eq hg⟩
  refine codeAny_mono ((F _ hKb (nsN hns)).run callerA [] s1 H ⟨[.ref a], []⟩ [.ref a] [.ref a] _ _ rfl hr e0 (hbind s1 (.ref a)) (.cons rfl .nil) (hsp H Ha Hn)) fun r s' h => ?_
  cases r with
  | error e =>
    obtain ⟨_, _, _, _, _, _, _, _, _, _, _, _, z⟩ := h
    exact z.elim
  | ok fl =>
    cases fl with
    | ret u =>
      obtain ⟨v, H', os, bare, un, hok', r', q⟩ := h
      have q' : v = .bl true := q
      subst q'
      obtain rfl : u = Value.bool true := r'
      refine ⟨rfl, OldK.of_keep fun b o e => ?_, os, bare⟩
      by_cases eb : b = a
      · rw [eb] at e ⊢
        rw [ha] at e
        cases e
        exact (hok' a _ (un.frzs a _ _ Ha)).1
      · exact un.keep b o e (Hn b eb) List.not_mem_nil List.not_mem_nil
    | next => exact False.elim h
    | brk => exact False.elim h
    | cont => exact False.elim h
/-- the law, its script's cells in trees -/
theorem walk_ofG {l : PySem.W.OpenLaw} {n k : Nat} {q : Program} {loose : List Str} {XP : (Str → Option Value) → Heap → Prop} {YP : World → Heap → Prop} {d : DefRec} {x : Str} (hn : l.most = some n) (hn2 : n ≤ sizeLine) (hdf : d.params.defaults = []) (hr : Room k callerA)
    (hF : ∀ (w : World) (mg : Str → Option Value) (fa : Addr) (h : Heap), YP w h → h.Ns mainGlobals mg → mg d.name = some (.ref fa) →
      ∃ (K : PySem.W.Frag) (fd : FuncData) (F : List D → List D → OutF), K.In h ∧ (∀ b o vs m, K.lookup b = some o → o ≠ { cls := .type "list", data := .seq vs m }) ∧ (∀ (s : Shared) (u : Value), BindsTo s fd ⟨[u], []⟩ [(x, u)]) ∧
        (∀ ns : List Int, ns.length ≤ n → (∀ z ∈ ns, Builtin.Int.intBits z ≤ 1048576) → ∃ h', F [.nd .scr (ns.map .int)] [] = .ok (.bl true) false h') ∧
        ∀ base : Heap, K.In base → base.Ns mainGlobals mg → FnG l.prog w K mg base k fa fd [x] (spD K mg 1 F)) :
    PySem.W.WalkO q loose XP YP l.row.toRowW d [] (fun f vs => PySem.call f vs) := by
  refine Att.attach_callB hn hdf fun w s0 s1 mg mb fa o pm cd doc a vs ns G Y ho hd hcd hmg hobj hints hlen hbits hg => ?_
  obtain ⟨K, fd, F, KX, hno, hb, hlaw, hG⟩ := hF w mg fa _ Y G.T.g hmg
  obtain ⟨h', hl⟩ := hlaw ns hlen hbits
  refine law_callG KX G.T.g G.T.b G.T.builtins G.T.nolimit hg hobj hints (Nat.le_trans hlen hn2) hr hG hb ?_ fun H Ha Hn => ?_
  · cases e : K.lookup a with
    | none => rfl
    | some ob =>
      have z := KX a ob e
      rw [hobj] at z
      exact absurd (Option.some.inj z).symm (hno a ob _ _ e)
  · have key : ∀ (W : Wd) (zs : List Int), Reps W (zs.map .int) (zs.map V.int) := fun W zs => by
      induction zs with
      | nil => rfl
      | cons z zs ih => exact ⟨_, _, rfl, rfl, ih⟩
    refine ⟨⟨K, clOf mg, [], H⟩, [.nd .scr (ns.map .int)], [], rfl, ⟨rfl, rfl⟩, ⟨fun _ _ h => h, List.nodup_nil, rfl, fun n d h => by cases h⟩, ⟨.ref a, [], rfl, ⟨a, rfl, _, _, Ha, key _ ns⟩, rfl⟩, ?_⟩
    rw [hl]
    exact fun v W' H' st hr rv => rv.ofF
end TD

end
section
set_option maxRecDepth 100000
set_option maxHeartbeats 4000000
/-! TeD: defs by facts, how arguments bind, facts of classes and tables. -/
namespace TD
open PySem L2 PyProof.Rows

/-! ### defs -/
/-- a def of the module, as it stands -/
structure Dfn (K : PySem.W.Frag) (mg : Str → Option Value) (x qual : Str) (st : Stmt) (kws : List (Str × V)) (f : Addr) (fd : FuncData) : Prop where
  fn : FunD K x qual (defArgs st) (defBody st) (defScope st) [] kws f fd
  gl : mg x = some (.ref f)
theorem Dfn.ok {P : Program} {w : World} {K : PySem.W.Frag} {mg : Str → Option Value} {base : Heap} {x qual : Str} {st : Stmt} {kws : List (Str × V)} {f : Addr} {fd : FuncData} {N ps : List Str} {k : Nat} {fb : S → OutS} (F : Dfn K mg x qual st kws f fd) (S : FnScope N ps (defScope st))
    (hb : ∀ (cdv : Value) (A : Around) (outer : List Env) (s : Shared) (H : Hp) (E : XK), A.guards = some [] → Room k (A.deeper (envOfC qual (defScope st) s.heap.objs.size f cdv)) → PSsD (cxOf (L2.CX P w) P w K mg base N qual (defScope st) f cdv A outer s H E) (defBody st) fb) :
    FnG P w K mg base (k + 1) f fd ps (spD K mg ps.length (bodyF N.length fb)) := by
  obtain ⟨oc, od, dV, kV, doc, pm, an, cdv, ct, osl, rfl, lk, hcd, _, _⟩ := F.fn.ex
  exact fng_body lk hcd S fun A outer s H E hg hr => hb cdv A outer s H E hg hr
section
variable {K : PySem.W.Frag} {x qual : Str} {params : Arguments} {body : List Stmt} {scope : Scope} {kws : List (Str × V)} {f : Addr} {fd : FuncData} {ps : List Str}
theorem BdP.all (F : FunD K x qual params body scope [] kws f fd)
    (h : ∀ (kV doc pm : Value) (an : Option Addr) (cdv ct : Value) (us : List Value), us.length = ps.length → bindArgs (PySem.W.fnOf x qual params body scope .none kV doc pm an cdv ct) ⟨us, []⟩ = pure (ps.zip us)) : BdP K fd ps ps.length (fun ds => ds) :=
  ⟨⟨fun us => us, fun vs => vs, fun s us _ hl => F.bindsA h s us hl, fun _ _ r => r, fun _ _ _ r => r⟩⟩
/-- the keyword-only ones lack -/
theorem BdP.dfl (F : FunD K x qual params body scope [] kws f fd) (n : Nat) (dd : List D) (hk : kws ≠ []) (hn : n + kws.length = ps.length) (hd : ∀ W, Reps W dd (kws.map (·.2)))
    (h : ∀ (D : Addr) (doc pm : Value) (an : Option Addr) (cdv ct : Value) (us ks : List Value), us.length = n → ks.length = kws.length →
      KwChain D ((kws.map (·.1)).zip ks) (bindArgs (PySem.W.fnOf x qual params body scope .none (.ref D) doc pm an cdv ct) ⟨us, []⟩) (ps.zip (us ++ ks))) : BdP K fd ps n (fun ds => ds ++ dd) := by
  obtain ⟨ds, rd, hb⟩ := F.binds0 n hk hn h
  have ld : ds.length = kws.length := by rw [← rd.length, List.length_map]
  exact ⟨⟨fun us => us ++ ds, fun vs => vs ++ kws.map (·.2), fun s us X hl => hb s us X (by rw [List.length_append, hl, ld]; exact hn), fun _ _ r => r.append rd, fun W _ _ r => r.append (hd W)⟩⟩
/-- every parameter is written, the last ones by keywords -/
theorem BdK.all (F : FunD K x qual params body scope [] kws f fd) (n : Nat) (ks : List Str)
    (h : ∀ (kV doc pm : Value) (an : Option Addr) (cdv ct : Value) (us ws : List Value), us.length = n → ws.length = ks.length → bindArgs (PySem.W.fnOf x qual params body scope .none kV doc pm an cdv ct) ⟨us, ks.zip ws⟩ = pure (ps.zip (us ++ ws))) : BdK K fd ps n ks (fun ds es => ds ++ es) := by
  obtain ⟨oc, od, dV, kV, doc, pm, an, cdv, ct, osl, rfl, lk, hcd, hD, hK⟩ := F.ex
  rcases hD with ⟨_, rfl⟩ | ⟨e, _⟩
  · exact ⟨⟨fun us ws => us ++ ws, fun vs zs => vs ++ zs, fun s us ws _ l1 l2 => .of_eq (h kV doc pm an cdv ct us ws l1 l2), fun _ _ _ _ r q => r.append q, fun _ _ _ _ _ r q => r.append q⟩⟩
  · exact absurd rfl e
end

/-! ### facts of exception classes -/
def oexB (K : PySem.W.Frag) (C : Addr) : Bool := (match K.lookup C with
  | some ⟨.type t, _, .cls cd, sl⟩ => decide (t = "type") && (match cd.mro, sl.toList with
    | .ref B :: bm, [_, _, _, _, some (.builtin n), _] => decide (B = C) && (decide (n = "ValueError.__new__") && (!cd.hasDel && (cd.hasDict && PySem.HandSPX.refsVE bm)))
    | _, _ => false)
  | _ => false) && (He.eqO (PySem.W.findIn K (.ref C) "__setattr__") (some (some (.builtin "object.__setattr__"))) && (decide (PySem.W.subIn K (.ref C) (.type "BaseException") = some true) && (decide (PySem.W.typeIn K (.ref C) = some (.type "type")) && PySem.W.keepIn K (.ref C))))
theorem oexB_ok {K : PySem.W.Frag} {C : Addr} (h : oexB K C = true) : OexC K C := by
  obtain ⟨h1, h⟩ := He.ba h
  obtain ⟨h2, h⟩ := He.ba h
  obtain ⟨h3, h⟩ := He.ba h
  obtain ⟨h4, h5⟩ := He.ba h
  refine ⟨?_, He.eqO_ok h2, of_decide_eq_true h3, of_decide_eq_true h4, h5⟩
  split at h1
  · rename_i t dd cd sl lk
    obtain ⟨e1, g1⟩ := He.ba h1
    have e1' : t = "type" := of_decide_eq_true e1
    clear h1 e1
    subst e1'
    split at g1
    · rename_i B bm k0 k1 k2 k3 n k5 em es
      obtain ⟨e2, g2⟩ := He.ba g1
      obtain ⟨e3, g3⟩ := He.ba g2
      obtain ⟨e4, g4⟩ := He.ba g3
      obtain ⟨e5, e6⟩ := He.ba g4
      clear g1 g2 g3 g4
      have e2 := of_decide_eq_true e2
      have e3 := of_decide_eq_true e3
      subst e2 e3
      obtain ⟨nm, bs, mro, ns, qn, hd, sn, sub, ab, col, del⟩ := cd
      dsimp only at em e4 e5
      subst em e5
      have e4 : del = false := by simpa using e4
      subst e4
      have hsl : sl = #[k0, k1, k2, k3, some (.builtin "ValueError.__new__"), k5] := by
        obtain ⟨l⟩ := sl
        dsimp only at es
        rw [es]
      subst hsl
      exact ⟨nm, qn, ns, bs, bm, sn, sub, ab, col, dd, k0, k1, k2, k3, k5, lk, e6⟩
    · cases g1
  · cases h1
def exccB (K : PySem.W.Frag) (C : Addr) : Bool := He.eqO (PySem.W.findIn K (.ref C) "__getattribute__") (some (some (.builtin "BaseException.__getattribute__"))) && (He.eqO (PySem.W.findIn K (.ref C) "__getattr__") (some none) && (decide (PySem.W.subIn K (.ref C) (.type "BaseException") = some true) &&
  (PySem.W.hasDictIn K C && (He.eqO (PySem.W.findIn K (.ref C) "__class__") (some (some (.builtin "object.__class__"))) && (He.eqO (PySem.W.specialIn K (.builtin "object.__class__") "__get__") (some (some (.builtin "getset_descriptor.__get__"))) &&
  (decide (PySem.W.takesIn K (.builtin "object.__class__") = some true) && decide (PySem.W.mroIn K C (.type "object") = some true)))))))
theorem exccB_ok {K : PySem.W.Frag} {C : Addr} (h : exccB K C = true) : ExcC K C := by
  obtain ⟨h1, h⟩ := He.ba h
  obtain ⟨h2, h⟩ := He.ba h
  obtain ⟨h3, h⟩ := He.ba h
  obtain ⟨h4, h⟩ := He.ba h
  obtain ⟨h5, h⟩ := He.ba h
  obtain ⟨h6, h⟩ := He.ba h
  obtain ⟨h7, h8⟩ := He.ba h
  exact ⟨He.eqO_ok h1, He.eqO_ok h2, of_decide_eq_true h3, h4, He.eqO_ok h5, He.eqO_ok h6, of_decide_eq_true h7, of_decide_eq_true h8⟩
/-- no list stands in the written part -/
def noListB (K : PySem.W.Frag) : Bool := K.all fun p => match p.2 with
  | ⟨.type t, none, .seq _ _, _⟩ => !decide (t = "list")
  | _ => true
theorem noListB_ok {K : PySem.W.Frag} (h : noListB K = true) : ∀ b o vs m, K.lookup b = some o → o ≠ { cls := .type "list", data := .seq vs m } := fun b o vs m e z => by
  have q := List.all_eq_true.mp h (b, o) (He.lookup_mem e)
  subst z
  simp at q
/-- the table of a written dict, by its entries -/
def ktabB (K : PySem.W.Frag) (a : Addr) (t : List (Str × D)) : Bool := match K.lookup a with
  | some ⟨_, _, .dict es _, _⟩ => (match tabU es.toList with
    | some u => decide (u.length = t.length) && (u.zip t).all fun p => decide (p.1.1 = p.2.1) && (match p.1.2, p.2.2 with
      | .int i, .int j => decide (i = j)
      | .str x, .str y => decide (x = y)
      | .bl b, .bl c => decide (b = c)
      | .non, .non => true
      | _, _ => false)
    | none => false)
  | _ => false
theorem ktab_zip : ∀ {u t : List (Str × D)}, u.length = t.length → ((u.zip t).all fun p => decide (p.1.1 = p.2.1) && (match p.1.2, p.2.2 with
      | .int i, .int j => decide (i = j)
      | .str x, .str y => decide (x = y)
      | .bl b, .bl c => decide (b = c)
      | .non, .non => true
      | _, _ => false)) = true → u = t
  | [], [], _, _ => rfl
  | [], _ :: _, h, _ => by cases h
  | _ :: _, [], h, _ => by cases h
  | (x, d) :: u, (y, e) :: t, h, q => by
    rw [List.zip_cons_cons, List.all_cons] at q
    obtain ⟨q1, q2⟩ := He.ba q
    obtain ⟨q3, q4⟩ := He.ba q1
    have e1 : x = y := of_decide_eq_true q3
    have e2 : d = e := by
      dsimp only at q4
      split at q4 <;> first | (rename_i a b; rw [of_decide_eq_true q4]) | rfl | cases q4
    rw [e1, e2, ktab_zip (Nat.succ.inj h) q2]
theorem ktabB_ok {K : PySem.W.Frag} {w : World} {a : Addr} {t : List (Str × D)} {es : Array DictEntry} {n : Nat} (kd : KDict K w a es n) (h : ktabB K a t = true) : KTab K w a t := by
  refine ⟨es, n, kd, ?_⟩
  unfold ktabB at h
  rw [kd.at_] at h
  dsimp only at h
  split at h
  · rename_i u eu
    obtain ⟨h1, h2⟩ := He.ba h
    rw [eu, ktab_zip (of_decide_eq_true h1) h2]
  · cases h
end TD

end
section
set_option maxRecDepth 100000
set_option maxHeartbeats 4000000
/-! TeE: more rules with their side conditions told. -/
namespace TD
open PySem L2 PyProof.Rows
/-- a def that stands and does what its mirror does -/
structure Has (P : Program) (w : World) (K : PySem.W.Frag) (mg : Str → Option Value) (base : Heap) (k : Nat) (x qual : Str) (st : Stmt) (kws : List (Str × V)) (ps : List Str) (F : List D → List D → OutF) : Prop where
  to : ∃ f fd, Dfn K mg x qual st kws f fd ∧ FnG P w K mg base k f fd ps (spD K mg ps.length F)
section
variable {X : Cx} {x qual : Str} {st : Stmt} {kws : List (Str × V)} {ps ks : List Str} {F : List D → List D → OutF} {e : Expr} {es : List Expr} {kw : List Keyword} {p pos : Pos} {k k' n : Nat}
theorem Has.call {g : List D → List D} {fs : S → Ou (List D)} (G : Has X.prog X.w X.K X.mg X.base k x qual st kws ps F) (hgd : X.A.guards = some []) (hr : Room k' X.A) (B : ∀ f fd, Dfn X.K X.mg x qual st kws f fd → BdP X.K fd ps n g) (ha : PAF n X (e :: es) fs) (hps : ∀ ds : List D, ds.length = n → (g ds).length = ps.length := by intro ds h; simp [h])
    (hk : k ≤ k' := by decide) (hg : Gl X x := by rfl) (hdb : (x == ("__debug__" : Str)) = false := by decide) (he : starEach (e :: es) X.env = (false, eval e X.env) :: starEach es X.env := by rfl) (hpl : (backTo pos (starEach es X.env)).any (·.1) = false := by rfl) : PD kV X (.Call (.Name x p) (e :: es) [] pos) (eCall (fun ds h => F (g ds) h) fs) := by
  obtain ⟨f, fd, d, G⟩ := G.to
  exact PD.callP G hgd (hr.mono hk) hg d.gl d.fn.kp (B f fd d) hps ha hdb he hpl
theorem Has.call0 {g : List D → List D} (G : Has X.prog X.w X.K X.mg X.base k x qual st kws ps F) (hgd : X.A.guards = some []) (hr : Room k' X.A) (B : ∀ f fd, Dfn X.K X.mg x qual st kws f fd → BdP X.K fd ps 0 g) (hps : (g []).length = ps.length := by rfl)
    (hk : k ≤ k' := by decide) (hg : Gl X x := by rfl) (hdb : (x == ("__debug__" : Str)) = false := by decide) : PD kV X (.Call (.Name x p) [] [] pos) (eCall (fun ds h => F (g ds) h) fNil) := by
  obtain ⟨f, fd, d, G⟩ := G.to
  exact PD.call0 G hgd (hr.mono hk) hg d.gl d.fn.kp (B f fd d) hps hdb
theorem Has.callK {g : List D → List D → List D} {fs fk : S → Ou (List D)} (G : Has X.prog X.w X.K X.mg X.base k x qual st kws ps F) (hgd : X.A.guards = some []) (hr : Room k' X.A) (B : ∀ f fd, Dfn X.K X.mg x qual st kws f fd → BdK X.K fd ps n ks g) (ha : PAF n X (e :: es) fs) (hkw : PKF ks.length X kw fk)
    (hps : ∀ ds es : List D, ds.length = n → es.length = ks.length → (g ds es).length = ps.length := by intro ds es h1 h2; simp [h1, h2]) (hk : k ≤ k' := by decide) (hg : Gl X x := by rfl)
    (hall : (backToKw pos (keywordEach kw X.env)).all (·.1.isSome) = true := by rfl) (hks : (backToKw pos (keywordEach kw X.env)).filterMap (·.1) = ks := by rfl) (hdb : (x == ("__debug__" : Str)) = false := by decide) (he : starEach (e :: es) X.env = (false, eval e X.env) :: starEach es X.env := by rfl)
    (hpl : ((backTo pos (starEach (e :: es) X.env)).any (·.1) || (backToKw pos (keywordEach kw X.env)).any (·.1.isNone)) = false := by rfl) : PD kV X (.Call (.Name x p) (e :: es) kw pos) (eCallK (fun ds es h => F (g ds es) h) fs fk) := by
  obtain ⟨f, fd, d, G⟩ := G.to
  exact PD.callK G hgd (hr.mono hk) hg d.gl d.fn.kp (B f fd d) hps ha hkw hall hks hdb he hpl
theorem Has.callK0 {g : List D → List D → List D} {fk : S → Ou (List D)} (G : Has X.prog X.w X.K X.mg X.base k x qual st kws ps F) (hgd : X.A.guards = some []) (hr : Room k' X.A) (B : ∀ f fd, Dfn X.K X.mg x qual st kws f fd → BdK X.K fd ps 0 ks g) (hkw : PKF ks.length X kw fk)
    (hps : ∀ es : List D, es.length = ks.length → (g [] es).length = ps.length := by intro es h2; simp [h2]) (hk : k ≤ k' := by decide) (hg : Gl X x := by rfl)
    (hall : (backToKw pos (keywordEach kw X.env)).all (·.1.isSome) = true := by rfl) (hks : (backToKw pos (keywordEach kw X.env)).filterMap (·.1) = ks := by rfl) (hdb : (x == ("__debug__" : Str)) = false := by decide)
    (hpl : ((backTo pos (starEach [] X.env)).any (·.1) || (backToKw pos (keywordEach kw X.env)).any (·.1.isNone)) = false := by rfl) : PD kV X (.Call (.Name x p) [] kw pos) (eCall (fun es h => F (g [] es) h) fk) := by
  obtain ⟨f, fd, d, G⟩ := G.to
  exact PD.callK0 G hgd (hr.mono hk) hg d.gl d.fn.kp (B f fd d) hps hkw hall hks hdb hpl
end
section
variable {X : Cx} {a b c e e2 o tg iter elt : Expr} {es ts : List Expr} {pos pos' p q p2 apos cpos tpos py spos : Pos} {x y n : Str} {kk kt : Nat} {elts ifs : List Expr} {scope : Scope} {own : List (Str × Nat)}
theorem k0 : PKF 0 X [] fNil := PKF.nil
/-! walks -/
theorem iListW {fa : S → Ou Ar} (h : PD kA X e fa) : PID X tg e (iLst fa) := PID.lst h
theorem iSeqW {fa : S → Ou Ar} (h : PD kA X e fa) : PID X tg e (iSeq fa) := PID.seq h
theorem iStrW {fa : S → Ou Ar} (h : PD kA X e fa) : PID X tg e (iStr fa) := PID.str h
theorem iEnumW {fs : S → Ou (List Ar)} (B : Bt X.mg) (ha : PAD kAs X [e] fs) (hg : Gl X "enumerate" := by rfl) (hs : starEach [e] X.env = [(false, eval e X.env)] := by rfl) : PID X (.Tuple elts kk tpos) (.Call (.Name "enumerate" p) [e] [] pos) (iEnum fs) := PID.enum hg B.enumerate ha hs
theorem iZipW {m : Nat} {ff : S → Ou (List D)} (B : Bt X.mg) (ha : PAF m X [e, e2] ff) (hg : Gl X "zip" := by rfl) (hs : starEach [e, e2] X.env = (false, eval e X.env) :: starEach [e2] X.env := by rfl) (hpl : (backTo pos (starEach [e2] X.env)).any (·.1) = false := by rfl) :
    PID X (.Tuple elts kk tpos) (.Call (.Name "zip" p) [e, e2] [] pos) (iZip ff) := PID.zip hg B.zip ha.pa hs hpl
/-! tables -/
theorem tabIn {d : Addr} {t : List (Str × D)} {fe : S → Ou D} (T : KTab X.K X.w d t) (hm : X.mg x = some (.ref d)) (he : PD kF X e fe) (hg : Gl X x := by rfl) (hdb : (x == ("__debug__" : Str)) = false := by decide) : PD kV X (.Compare e [.In] [.Name x p] pos) (ktIn t false fe) := PD.inTab T he hg hm hdb
theorem tabNotIn {d : Addr} {t : List (Str × D)} {fe : S → Ou D} (T : KTab X.K X.w d t) (hm : X.mg x = some (.ref d)) (he : PD kF X e fe) (hg : Gl X x := by rfl) (hdb : (x == ("__debug__" : Str)) = false := by decide) : PD kV X (.Compare e [.NotIn] [.Name x p] pos) (ktIn t true fe) := PD.notInTab T he hg hm hdb
theorem tabIx {d : Addr} {t : List (Str × D)} {fe : S → Ou D} (T : KTab X.K X.w d t) (hm : X.mg x = some (.ref d)) (he : PD kF X e fe) (hs : PlainIx e := by exact fun _ _ => rfl) (hg : Gl X x := by rfl) (hdb : (x == ("__debug__" : Str)) = false := by decide) : PD kV X (.Subscript (.Name x p) e pos) (ktIx t fe) := PD.ixTab T he hs hg hm hdb
theorem tabGet {d : Addr} {t : List (Str × D)} {m : Nat} {ff : S → Ou (List D)} (T : KTab X.K X.w d t) (hm : X.mg x = some (.ref d)) (ha : PAF m X [e] ff) (hg : Gl X x := by rfl) (hdb : (x == ("__debug__" : Str)) = false := by decide) (hbase : attributeBase (.Name x p) "get" X.env (eval (.Name x p) X.env) = eval (.Name x p) X.env := by rfl)
    (hfew : ((backTo cpos (starEach [e] X.env)).all (fun x => !x.1) && (backToKw cpos (keywordEach [] X.env)).all (fun x => x.1.isSome) && decide ([e].length + ([] : List Keyword).length + (if ([] : List Keyword).isEmpty then 0 else 1) < 30)) = true := by rfl)
    (hline : (apos.endLine == cpos.line) = true := by rfl) (hs : starEach [e] X.env = (false, eval e X.env) :: starEach [] X.env := by rfl) (hplain : (backTo cpos (starEach [] X.env)).any (·.1) = false := by rfl) :
    PD kV X (.Call (.Attribute (.Name x p) "get" apos) [e] [] cpos) (ktGet t ff) := PD.getTab T ha.pa hg hm hdb hbase hfew hline hs hplain
theorem bb_repr : bootBuiltins "repr" = some (.builtin "repr") := by decide +kernel
theorem cRepr {fs : S → Ou (List Ar)} (B : Bt X.mg) (hgd : X.A.guards = some []) (hu : X.A.units + 64 < cLine) (ha : PAD kAs X [e] fs) (hg : Gl X "repr" := by rfl) (h1 : starEach [e] X.env = (false, eval e X.env) :: starEach [] X.env := by rfl) (h2 : (backTo pos (starEach [] X.env)).any (·.1) = false := by rfl) : PD kV X (.Call (.Name "repr" p) [e] [] pos) (eOpN reprG fs) :=
  PD.callB (call_reprD hgd hu) pr_repr hg B.repr bb_repr ha (by decide) (by decide) h1 h2
/-! slices -/
theorem sl0 : POD X none (eC none) := POD.none
theorem slS {f : S → Ou D} (h : PD kF X e f) : POD X (some e) (oInt f) := POD.some h
theorem xSlc {lo hi : Option Expr} {fa : S → Ou Ar} {fl fh : S → Ou (Option Int)} (ha : PD kA X e fa) (hl : POD X lo fl) (hh : POD X hi fh) : PD kV X (.Subscript e (.Slice lo hi none p2) pos) (eSlc fa fl fh) := PD.slc ha hl hh
/-! comprehensions -/
theorem lcW {it : S → Ou Wk} {ws : List Nat} {m : Tg} {g : TG} {fc : S → Ou Bool} {fe : S → Ou D} (own : List (Str × Nat)) (hc : X.calm = true) (hN : X.N.Nodup) (hi : PID X tg iter it)
    (hg : ∀ (s : Shared) (H : Hp) (C : Addr) (cl : List (Str × Addr)) (fp : List Addr), PGD (X.blk s H scope (compEnvC scope cl C X.env) fp) tg g m ws)
    (ht : ∀ (s : Shared) (H : Hp) (C : Addr) (cl : List (Str × Addr)) (fp : List Addr), PTsD (X.blk s H scope (compEnvC scope cl C X.env) fp) ifs fc)
    (he : ∀ (s : Shared) (H : Hp) (C : Addr) (cl : List (Str × Addr)) (fp : List Addr), PD kF (X.blk s H scope (compEnvC scope cl C X.env) fp) elt fe)
    (ok : blkC X.N X.env.scope scope own = true := by kernel_rfl) (hw : ∀ j ∈ ws, j ∈ own.map (·.2) := by decide) (hs : ∀ x, foldedSetIterable iter X.env x = pure x := by intro _; rfl) : PD kV X (.ListComp elt [⟨tg, iter, ifs, 0⟩] scope pos) (eLc it (own.map (·.2)) m fc fe) :=
  PD.lc hc hN hi (blkOk_by ok) hw hg ht he hs
theorem setLcW {it : S → Ou Wk} {ws : List Nat} {m : Tg} {g : TG} {fc : S → Ou Bool} {fe : S → Ou D} (i : Nat) (own : List (Str × Nat)) (hc : X.calm = true) (hN : X.N.Nodup) (hi : PID X tg iter it)
    (hg : ∀ (s : Shared) (H : Hp) (C : Addr) (cl : List (Str × Addr)) (fp : List Addr), PGD (X.blk s H scope (compEnvC scope cl C X.env) fp) tg g m ws)
    (ht : ∀ (s : Shared) (H : Hp) (C : Addr) (cl : List (Str × Addr)) (fp : List Addr), PTsD (X.blk s H scope (compEnvC scope cl C X.env) fp) ifs fc)
    (he : ∀ (s : Shared) (H : Hp) (C : Addr) (cl : List (Str × Addr)) (fp : List Addr), PD kF (X.blk s H scope (compEnvC scope cl C X.env) fp) elt fe)
    (hy : X.N[i]? = some y := by rfl) (hyl : X.env.scope.names.lookup y = some .local := by rfl) (hk : X.env.scope.kind = .function := by rfl) (hl : (py.line == pos.line) = true := by rfl) (hn : (scope.names.any fun (n, k) => n == y && (k == .local || k == .cell)) = false := by kernel_rfl)
    (ok : blkC X.N X.env.scope scope own = true := by kernel_rfl) (hw : ∀ j ∈ ws, j ∈ own.map (·.2) := by decide) (hs : ∀ x, foldedSetIterable iter X.env x = pure x := by intro _; rfl) :
    PSD X (.Assign [.Name y py] (.ListComp elt [⟨tg, iter, ifs, 0⟩] scope pos) spos) (sSet i (eLc it (own.map (·.2)) m fc fe)) :=
  PSD.setLc hc hN hy hyl (sw_true hk hyl hl hn) hi (blkOk_by ok) hw hg ht he hs
/-! stores -/
theorem v0 : PAD kVs X [] vNil := PAD.vnil
theorem vC {fa : S → Ou (D × Bool)} {fr : S → Ou (List (D × Bool))} (ha : PD kV X e fa) (hr : PAD kVs X es fr) (hs : starEach (e :: es) X.env = (false, eval e X.env) :: starEach es X.env := by rfl) : PAD kVs X (e :: es) (vCons fa fr) := PAD.vcons ha hr hs
theorem gs0 : PGs X [] gNil := pgs_nil
theorem gsC {g : TG} {gs : TGs} (h1 : PG X e g) (h2 : PGs X es gs) (hs : (assignEach (e :: es) X.env).map (·.2) = assign e X.env :: (assignEach es X.env).map (·.2) := by rfl) : PGs X (e :: es) (gCons g gs) := pgs_cons h1 h2 hs
theorem gNm (i : Nat) (hN : X.N.Nodup) (hi : X.N[i]? = some x := by rfl) (hx : Loc X.env.scope x := by first | exact Or.inl rfl | exact Or.inr rfl) (hf : X.fn x = true ∨ X.env.scope.names.lookup x = some .local := by first | exact .inl rfl | exact .inr rfl) : PG X (.Name x pos) (gName i) := pg_name hN hi hx hf
theorem sSubL {fe fi : S → Ou D} {fo : S → Ou Ar} (he : PD kF X e fe) (ho : PD kA X o fo) (hi : PD kF X iter fi) (hs : swapsWithSole [.Subscript o iter p] e pos.line X.env = pure false := by rfl) (hw : swappedStores [.Subscript o iter p] e X.env = pure none := by rfl)
    (hpl : ∀ v, assign (.Subscript o iter p) X.env v = (do
      let ov ← holding [v] (eval o X.env)
      let iv ← holding [v, ov] (eval iter X.env)
      standAt p
      holding [v, ov, iv] (setItem ov iv v)
      release [v, ov, iv] []) := by intro _; rfl) : PSD X (.Assign [.Subscript o iter p] e pos) (sSub setLG fe fo fi) :=
  PSD.sub set_list pr_setL he ho hi (fun ho hi => pg_sub ho hi set_list hpl) hs hw
theorem sStarN {is : List Nat} {g : TGs} {fe : S → Ou D} (i : Nat) (hc : X.calm = true) (he : PD kF X e fe) (hg : PGs X ts g) (hk : NmsOk g is) (hi : i < is.length := by decide) (hts : (assignEach es X.env).map (·.2) = (assignEach ts X.env).map (·.2) := by rfl) (hn : (assignEach es X.env).length = is.length := by rfl) (hst : (assignEach es X.env).findIdx? (·.1) = some i := by rfl)
    (hs : swapsWithSole [.Tuple es kt p] e pos.line X.env = pure false := by rfl) (hw : swappedStores [.Tuple es kt p] e X.env = pure none := by rfl) : PSD X (.Assign [.Tuple es kt p] e pos) (sStar is i fe) := PSD.star hc he hg hk hi hts hn hst hs hw
theorem sParT {is : List Nat} {g : TGs} {f : S → Ou (List (D × Bool))} (hc : X.calm = true) (hg : PGs X ts g) (hi : NmsOk g is) (ha : PAD kVs X es f) (hl : ∀ s as s', f s = .ok as s' → as.length = is.length) (hsz : is.length ≤ 1000 := by decide)
    (hn : (assignEach ts X.env).length = is.length := by rfl) (hst : (assignEach ts X.env).findIdx? (·.1) = none := by rfl) (hs : swapsWithSole [.Tuple ts kt p] (.Tuple es kk p2) pos.line X.env = pure false := by rfl) (hw : swappedStores [.Tuple ts kt p] (.Tuple es kk p2) X.env = pure none := by rfl) :
    PSD X (.Assign [.Tuple ts kt p] (.Tuple es kk p2) pos) (sPar is f) := PSD.parT hc hg hi ha hl hsz hn hst hs hw
theorem sPar2 {px : Pos} {f : S → Ou (List (D × Bool))} (i j : Nat) (hc : X.calm = true) (hN : X.N.Nodup) (ha : PAD kVs X [a, b] f) (hl : ∀ s as s', f s = .ok as s' → as.length = 2) (hi : X.N[i]? = some x := by rfl) (hj : X.N[j]? = some y := by rfl) (hij : i ≠ j := by decide) (hx : X.env.scope.names.lookup x = some .local := by rfl)
    (hy : X.env.scope.names.lookup y = some .local := by rfl) (hw : swappedStores [.Tuple [.Name x px, .Name y py] kt p] (.Tuple [a, b] kk p2) X.env = pure (some [x, y]) := by rfl) (hs : swapsWithSole [.Tuple [.Name x px, .Name y py] kt p] (.Tuple [a, b] kk p2) pos.line X.env = pure false := by rfl) :
    PSD X (.Assign [.Tuple [.Name x px, .Name y py] kt p] (.Tuple [a, b] kk p2) pos) (sPar [i, j] f) := PSD.par2 hc hN hi hj hij hx hy ha hl hw hs
theorem sPar3 {px pz : Pos} {z : Str} {f : S → Ou (List (D × Bool))} (i j l : Nat) (hc : X.calm = true) (hN : X.N.Nodup) (ha : PAD kVs X [a, b, c] f) (hlen : ∀ s as s', f s = .ok as s' → as.length = 3) (hi : X.N[i]? = some x := by rfl) (hj : X.N[j]? = some y := by rfl) (hl : X.N[l]? = some z := by rfl) (hij : i ≠ j := by decide) (hil : i ≠ l := by decide) (hjl : j ≠ l := by decide)
    (hx : X.env.scope.names.lookup x = some .local := by rfl) (hy : X.env.scope.names.lookup y = some .local := by rfl) (hz : X.env.scope.names.lookup z = some .local := by rfl)
    (hw : swappedStores [.Tuple [.Name x px, .Name y py, .Name z pz] kt p] (.Tuple [a, b, c] kk p2) X.env = pure (some [x, y, z]) := by rfl) (hs : swapsWithSole [.Tuple [.Name x px, .Name y py, .Name z pz] kt p] (.Tuple [a, b, c] kk p2) pos.line X.env = pure false := by rfl) :
    PSD X (.Assign [.Tuple [.Name x px, .Name y py, .Name z pz] kt p] (.Tuple [a, b, c] kk p2) pos) (sPar [i, j, l] f) := PSD.par3 hc hN hi hj hl hij hil hjl hx hy hz ha hlen hw hs
end
end TD

end
section
set_option maxRecDepth 100000
set_option maxHeartbeats 4000000
/-! TeF: classes told of by facts. -/
namespace TD
open PySem L2 PyProof.Rows
def sUnp (m : Tg) (fe : S → Ou D) : S → OutS := fun s => (fe s).thn fun d s1 => match m d s1 with
  | some s2 => .nx s2
  | none => .bad
/-- what is said of isinstance(.., cv) -/
structure IsF (K : PySem.W.Frag) (mg : Str → Option Value) (cv : Value) (xs : List (Str × Bool)) : Prop where
  hx : ∀ c b, xs.lookup c = some b → ∀ Ce, mg c = some (.ref Ce) → ExcC K Ce ∧ PySem.W.kitOne K (.ref Ce) cv = some b
  hT : ∀ T ∈ tyNames, PySem.W.kitOne K (.type T) cv = some false
def isfB (K : PySem.W.Frag) (cv : Value) (xs : List (Str × Bool)) : Bool := (xs.all fun p => exccB K (He.ga K p.1) && decide (PySem.W.kitOne K (.ref (He.ga K p.1)) cv = some p.2)) && tyNames.all fun T => decide (PySem.W.kitOne K (.type T) cv = some false)
theorem lookup_in {α : Type} {c : Str} {b : α} : ∀ {xs : List (Str × α)}, xs.lookup c = some b → (c, b) ∈ xs
  | [], h => by cases h
  | (d, e) :: r, h => by
    rw [List.lookup_cons] at h
    split at h
    · rename_i q
      cases h
      rw [beq_iff_eq.mp q]
      exact List.mem_cons_self ..
    · exact List.mem_cons_of_mem _ (lookup_in h)
theorem isfB_ok {K : PySem.W.Frag} {mg : Str → Option Value} {cv : Value} {xs : List (Str × Bool)} (hg : ∀ p ∈ xs, mg p.1 = some (.ref (He.ga K p.1))) (h : isfB K cv xs = true) : IsF K mg cv xs := by
  obtain ⟨h1, h2⟩ := He.ba h
  refine ⟨fun c b e Ce hC => ?_, fun T hT => of_decide_eq_true (List.all_eq_true.mp h2 T hT)⟩
  have m := lookup_in e
  have q := hg _ m
  rw [hC] at q
  cases q
  obtain ⟨h3, h4⟩ := He.ba (List.all_eq_true.mp h1 _ m)
  exact ⟨exccB_ok h3, of_decide_eq_true h4⟩
def exmB (K : PySem.W.Frag) (x : Str) (xs : List (Str × Bool)) : Bool := xs.all fun p => decide (PySem.W.exmOne K (.ref (He.ga K p.1)) (.ref (He.ga K x)) = some p.2)
theorem exmB_ok {K : PySem.W.Frag} {mg : Str → Option Value} {x : Str} {xs : List (Str × Bool)} (hg : ∀ p ∈ xs, mg p.1 = some (.ref (He.ga K p.1))) (h : exmB K x xs = true) : ∀ c b, xs.lookup c = some b → ∀ Ce, mg c = some (.ref Ce) → PySem.W.exmOne K (.ref Ce) (.ref (He.ga K x)) = some b := fun c b e Ce hC => by
  have m := lookup_in e
  have q := hg _ m
  rw [hC] at q
  cases q
  exact of_decide_eq_true (List.all_eq_true.mp h _ m)
def fldB (K : PySem.W.Frag) (f : Str) (cs : List Str) : Bool := cs.all fun c => He.eqO (PySem.W.findIn K (.ref (He.ga K c)) f) (some none) && xfB K (He.ga K c)
theorem fldB_ok {K : PySem.W.Frag} {mg : Str → Option Value} {f : Str} {cs : List Str} (hg : ∀ c ∈ cs, mg c = some (.ref (He.ga K c))) (h : fldB K f cs = true) : ∀ c, cs.contains c = true → ∀ C, mg c = some (.ref C) → XfC K C ∧ PySem.W.findIn K (.ref C) f = some none := fun c hc C hC => by
  have m : c ∈ cs := List.contains_iff_mem.mp hc
  have q := hg _ m
  rw [hC] at q
  cases q
  obtain ⟨h3, h4⟩ := He.ba (List.all_eq_true.mp h _ m)
  exact ⟨xfB_ok h4, He.eqO_ok h3⟩
/-- a class with an __init__ that stores its one argument may be raised -/
structure Rz1 (P : Program) (w : World) (K : PySem.W.Frag) (mg : Str → Option Value) (base : Heap) (x fn : Str) : Prop where
  to : ∃ C fI fdI pi, OexC K C ∧ PySem.W.findIn K (.ref C) "__init__" = some (some (.ref fI)) ∧ PySem.W.typeIn K (.ref fI) = some (.type "function") ∧ FnOk P w K mg base (L2.CX P w) 1 fI fdI pi (spXI C fn) ∧ Binds K fdI pi [] ∧ mg x = some (.ref C)
section
variable {X : Cx} {e tg : Expr} {p q pos p3 : Pos} {x n : Str} {k : Nat} {f : Str}
theorem sUnpW {m : Tg} {g : TG} {vs : List Nat} {fe : S → Ou D} (he : PD kF X e fe) (hg : PGD X tg g m vs) (hs : swapsWithSole [tg] e pos.line X.env = pure false := by rfl) (hw : swappedStores [tg] e X.env = pure none := by rfl) (h1 : List.map (·.2) (assignEach [tg] X.env) = [assign tg X.env] := by rfl) : PSD X (.Assign [tg] e pos) (sUnp m fe) := PSD.unp he hg hs hw h1
theorem fldW {cs : List Str} {fa : S → Ou Ar} (hT : ∀ c, cs.contains c = true → ∀ C, X.mg c = some (.ref C) → XfC X.K C ∧ PySem.W.findIn X.K (.ref C) f = some none) (ha : PD kA X e fa) (hb : attributeBase e f X.env (eval e X.env) = eval e X.env := by rfl) : PD kV X (.Attribute e f pos) (eFldX cs f fa) := PD.fldX ha hT hb
theorem isXW {C : Addr} {xs : List (Str × Bool)} {fa : S → Ou Ar} (B : Bt X.mg) (hm : X.mg x = some (.ref C)) (I : IsF X.K X.mg (.ref C) xs) (ha : PD kA X e fa) (hg : Gl X "isinstance" := by rfl) (hgx : Gl X x := by rfl) (hd : (x == ("__debug__" : Str)) = false := by decide) (h1 : starEach [e, .Name x q] X.env = (false, eval e X.env) :: starEach [.Name x q] X.env := by rfl)
    (h2 : (backTo pos (starEach [.Name x q] X.env)).any (·.1) = false := by rfl) (h3 : starEach [.Name x q] X.env = (false, eval (.Name x q) X.env) :: starEach [] X.env := by rfl) : PD kV X (.Call (.Name "isinstance" p) [e, .Name x q] [] pos) (eIsX xs fa) := PD.isX hg B.isinstance ha (pe_glob (v := .ref C) hgx hm rfl hd) (.own C) I.hx I.hT h1 h2 h3
theorem isXB {xs : List (Str × Bool)} {fa : S → Ou Ar} (U : String) (B : Bt X.mg) (hm : X.mg x = none) (hv : bootBuiltins x = some (.type U)) (I : IsF X.K X.mg (.type U) xs) (ha : PD kA X e fa) (hg : Gl X "isinstance" := by rfl) (hgx : Gl X x := by rfl) (hn : x ≠ "__name__" := by decide) (hd : (x == ("__debug__" : Str)) = false := by decide)
    (h1 : starEach [e, .Name x q] X.env = (false, eval e X.env) :: starEach [.Name x q] X.env := by rfl) (h2 : (backTo pos (starEach [.Name x q] X.env)).any (·.1) = false := by rfl) (h3 : starEach [.Name x q] X.env = (false, eval (.Name x q) X.env) :: starEach [] X.env := by rfl) :
    PD kV X (.Call (.Name "isinstance" p) [e, .Name x q] [] pos) (eIsX xs fa) := PD.isX hg B.isinstance ha (pe_bltn (v := .ty U) hgx hm hv rfl hn hd) (.ty U) I.hx I.hT h1 h2 h3
theorem bb_ValueError : bootBuiltins "ValueError" = some (.type "ValueError") := by decide +kernel
theorem Rz1.raise {fn : Str} {fe : S → Ou D} (z : Rz1 X.prog X.w X.K X.mg X.base x fn) (hr : Room k X.A) (he : PD kF X e fe) (hk : 2 ≤ k := by decide) (hc : X.calm = true := by rfl) (hg : Gl X x := by rfl) (hdb : (x == ("__debug__" : Str)) = false := by decide) (hs : starEach [e] X.env = (false, eval e X.env) :: starEach [] X.env := by rfl) (hpl : (backTo p3 (starEach [] X.env)).any (·.1) = false := by rfl) :
    PSD X (.Raise (some (.Call (.Name x p) [e] [] p3)) none pos) (sRaise1 x fn fe) := by
  obtain ⟨C, fI, fdI, pi, T, iC, tI, F1, hb, hm⟩ := z.to
  exact PSD.raise1 hc T iC tI F1 (hr.mono hk) hb hg hm he hdb hs hpl
end
/-- a def without defaults, as the older rules have it -/
theorem FunD.toFun {K : PySem.W.Frag} {x qual : Str} {st : Stmt} {f : Addr} {fd : FuncData} (F : FunD K x qual (defArgs st) (defBody st) (defScope st) [] [] f fd) : Fun K x qual st f fd := by
  obtain ⟨oc, od, dV, kV, doc, pm, an, cdv, ct, osl, e, lk, hcd, hD, _⟩ := F.ex
  rcases hD with ⟨_, rfl⟩ | ⟨z, _⟩
  · exact ⟨⟨oc, od, kV, doc, pm, an, cdv, ct, osl, e, lk, hcd⟩, F.kp⟩
  · exact absurd rfl z
end TD

end
section
set_option maxRecDepth 100000
set_option maxHeartbeats 4000000
/-! TeG: tests by tables. -/
namespace TD
open PySem L2 PyProof.Rows
section
variable {X : Cx} {e : Expr} {pos p : Pos} {x : Str} {d : Addr} {t : List (Str × D)} {fe : S → Ou D}
theorem tTabIn (T : KTab X.K X.w d t) (hm : X.mg x = some (.ref d)) (he : PD kF X e fe) (hg : Gl X x := by rfl) (hdb : (x == ("__debug__" : Str)) = false := by decide) : PTD kB X (.Compare e [.In] [.Name x p] pos) (fun s => tst (ktIn t false fe s)) := fun Wx tk =>
  PT.imp (pt_cmpR (op_inT T) (he Wx tk) (pe_glob hg hm (v := .ref d) rfl hdb) rfl) fun s H Q hh => by
    obtain ⟨W, s0, o, R, q⟩ := tD_tst hh
    refine ⟨W, s0, o, R, Po.bind q fun a v s1 W1 H1 st ln R1 ra q1 => ?_⟩
    split at q1
    · rename_i z
      have ra : v = .str z := ra
      refine ⟨z, ra, rfl, ?_⟩
      have q2 := Po.pure q1 R1 (kV_F (show Rep W1 (.bl ((tabAt t z).isSome != false)) (.bl ((tabAt t z).isSome != false)) from rfl))
      rwa [Bool.bne_false] at q2
    · exact False.elim q1
theorem tTabNotIn (T : KTab X.K X.w d t) (hm : X.mg x = some (.ref d)) (he : PD kF X e fe) (hg : Gl X x := by rfl) (hdb : (x == ("__debug__" : Str)) = false := by decide) : PTD kB X (.Compare e [.NotIn] [.Name x p] pos) (fun s => tst (ktIn t true fe s)) := fun Wx tk =>
  PT.imp (pt_cmpR (op_notInT T) (he Wx tk) (pe_glob hg hm (v := .ref d) rfl hdb) rfl) fun s H Q hh => by
    obtain ⟨W, s0, o, R, q⟩ := tD_tst hh
    refine ⟨W, s0, o, R, Po.bind q fun a v s1 W1 H1 st ln R1 ra q1 => ?_⟩
    split at q1
    · rename_i z
      have ra : v = .str z := ra
      refine ⟨z, ra, rfl, ?_⟩
      have q2 := Po.pure q1 R1 (kV_F (show Rep W1 (.bl ((tabAt t z).isSome != true)) (.bl ((tabAt t z).isSome != true)) from rfl))
      rwa [Bool.bne_true] at q2
    · exact False.elim q1
end
end TD

end
section
set_option maxRecDepth 100000
set_option maxHeartbeats 4000000
/-! TeH: plain laws of the mirrors' loops. -/
namespace TD
open PySem
@[simp] theorem still_non {node : D} {s : S} : Gd.still .non node s = true := by unfold Gd.still; rfl
@[simp] theorem lend_non {node : D} {s : S} : Gd.lend .non node s = s := by unfold Gd.lend; rfl
@[simp] theorem unlend_non {node : D} {s : S} : Gd.unlend .non node s = s := by unfold Gd.unlend; rfl
/-- a loop by an invariant over what is left: every turn goes on -/
theorem forL_inv {m : Tg} {body : S → OutS} {node : D} (I : List D → S → Prop) (R : OutS → Prop) : ∀ (ds : List D) (s : S), I ds s →
    (∀ d ds s, I (d :: ds) s → ∃ s1, m d s = some s1 ∧ ((∃ s2, (body s1 = .nx s2 ∨ body s1 = .ct s2) ∧ I ds s2) ∨ (∃ s2, body s1 = .bk s2 ∧ R (.nx s2)) ∨ (∃ v fr s2, body s1 = .rt v fr s2 ∧ R (.rt v fr s2)) ∨ (∃ e s2, body s1 = .ex e s2 ∧ R (.ex e s2)))) →
    (∀ s, I [] s → R (.nx s)) → R (forL .non node m body ds s)
  | [], s, h, _, h0 => by
    unfold forL
    rw [unlend_non]
    exact h0 s h
  | d :: ds, s, h, hs, h0 => by
    obtain ⟨s1, e1, h1⟩ := hs d ds s h
    unfold forL
    rw [e1]
    dsimp only
    rcases h1 with ⟨s2, e2 | e2, h2⟩ | ⟨s2, e2, h2⟩ | ⟨v, fr, s2, e2, h2⟩ | ⟨e, s2, e2, h2⟩
    · rw [e2]
      dsimp only
      rw [still_non, if_pos rfl]
      exact forL_inv I R ds s2 h2 hs h0
    · rw [e2]
      dsimp only
      rw [still_non, if_pos rfl]
      exact forL_inv I R ds s2 h2 hs h0
    · rw [e2]
      dsimp only
      rw [still_non, if_pos rfl, unlend_non]
      exact h2
    · rw [e2]
      exact h2
    · rw [e2]
      dsimp only
      rw [still_non, if_pos rfl, unlend_non]
      exact h2
/-- a comprehension whose elements change nothing -/
theorem lcL_map {m : Tg} {fc : S → Ou Bool} {fe : S → Ou D} {node : D} {vs : List Nat} {s0 sw : S} (g : D → D) : ∀ (ds acc : List D), (∀ d ∈ ds, ∃ s1 s2 s3, m d sw = some s1 ∧ fc s1 = .ok true s2 ∧ fe s2 = .ok (g d) s3 ∧ s3.wipe vs = sw) → acc.length + ds.length ≤ sizeLine →
    lcL .non node vs s0 m fc fe ds acc sw = .ok (.nd .lst (acc ++ ds.map g), true) (S.back s0 sw vs)
  | [], acc, _, _ => by
    unfold lcL
    rw [unlend_non, List.map_nil, List.append_nil]
  | d :: ds, acc, h, hl => by
    obtain ⟨s1, s2, s3, e1, e2, e3, e4⟩ := h d (List.mem_cons_self ..)
    rw [List.length_cons] at hl
    unfold lcL
    rw [e1]
    dsimp only
    rw [e2]
    dsimp only
    rw [e3]
    dsimp only
    rw [if_pos ⟨still_non, by omega⟩, e4, lcL_map g ds (acc ++ [g d]) (fun d' hd => h d' (List.mem_cons_of_mem _ hd)) (by rw [List.length_append, List.length_singleton]; omega), List.map_cons, List.append_assoc]
    rfl
@[simp] theorem still_sl {i : Nat} {lk : Bool} {node : D} {s : S} : Gd.still (.sl i lk) node s = true := by unfold Gd.still; rfl
/-- the same under any guard -/
theorem lcL_mapG {gd : Gd} {m : Tg} {fc : S → Ou Bool} {fe : S → Ou D} {node : D} {vs : List Nat} {s0 sw : S} (g : D → D) : ∀ (ds acc : List D), (∀ d ∈ ds, ∃ s1 s2 s3, m d sw = some s1 ∧ fc s1 = .ok true s2 ∧ fe s2 = .ok (g d) s3 ∧ gd.still node s3 = true ∧ s3.wipe vs = sw) → acc.length + ds.length ≤ sizeLine →
    lcL gd node vs s0 m fc fe ds acc sw = .ok (.nd .lst (acc ++ ds.map g), true) (gd.unlend node (S.back s0 sw vs))
  | [], acc, _, _ => by
    unfold lcL
    rw [List.map_nil, List.append_nil]
  | d :: ds, acc, h, hl => by
    obtain ⟨s1, s2, s3, e1, e2, e3, e5, e4⟩ := h d (List.mem_cons_self ..)
    rw [List.length_cons] at hl
    unfold lcL
    rw [e1]
    dsimp only
    rw [e2]
    dsimp only
    rw [e3]
    dsimp only
    rw [if_pos ⟨e5, by omega⟩, e4, lcL_mapG g ds (acc ++ [g d]) (fun d' hd => h d' (List.mem_cons_of_mem _ hd)) (by rw [List.length_append, List.length_singleton]; omega), List.map_cons, List.append_assoc]
    rfl
end TD

end
section
set_option maxRecDepth 100000
set_option maxHeartbeats 4000000
/-! TeI: mirrors evaluated at states that are written out: every rule fires at S.mk alone. -/
namespace TD
open PySem
def mA (f : S → Ou D) : S → Ou Ar := fun s => toA (f s)
def mV (f : S → Ou D) : S → Ou (D × Bool) := fun s => toV (f s)
def mF (f : S → Ou (D × Bool)) : S → Ou D := fun s => frz (f s)
def mT (f : S → Ou (D × Bool)) : S → Ou Bool := fun s => tst (f s)
def mH (f : S → Ou (D × Bool)) : S → Ou D := fun s => hpz (f s)
def aNil : S → Ou (List Ar) := fun s => .ok [] s
def sBrk : S → OutS := fun s => .bk s
def sCnt : S → OutS := fun s => .ct s
/-- a body's end as a call's end -/
def OutS.res : OutS → OutF
  | .nx s => .ok .non false s.h
  | .rt d fr s => .ok d fr s.h
  | .ex e s => .ex e s.h
  | _ => .bad
section
variable {r : List Sl} {h : List D} {α β : Type} {s : S}
theorem bodyF_ap (N : Nat) (f : S → OutS) (ds h : List D) : bodyF N f ds h = (f ⟨ds.map .fz ++ List.replicate (N - ds.length) .un, h⟩).res := by
  unfold bodyF OutS.res
  cases f ⟨ds.map .fz ++ List.replicate (N - ds.length) .un, h⟩ <;> rfl
@[simp] theorem res_nx (s : S) : (OutS.nx s).res = .ok .non false s.h := id rfl
@[simp] theorem res_rt (d : D) (fr : Bool) (s : S) : (OutS.rt d fr s).res = .ok d fr s.h := id rfl
@[simp] theorem res_ex (e : Xn) (s : S) : (OutS.ex e s).res = .ex e s.h := id rfl
@[simp] theorem mA_ap (f : S → Ou D) : mA f ⟨r, h⟩ = toA (f ⟨r, h⟩) := id rfl
@[simp] theorem mV_ap (f : S → Ou D) : mV f ⟨r, h⟩ = toV (f ⟨r, h⟩) := id rfl
@[simp] theorem mF_ap (f : S → Ou (D × Bool)) : mF f ⟨r, h⟩ = frz (f ⟨r, h⟩) := id rfl
@[simp] theorem mT_ap (f : S → Ou (D × Bool)) : mT f ⟨r, h⟩ = tst (f ⟨r, h⟩) := id rfl
@[simp] theorem mH_ap (f : S → Ou (D × Bool)) : mH f ⟨r, h⟩ = hpz (f ⟨r, h⟩) := id rfl
@[simp] theorem aNil_ap : aNil ⟨r, h⟩ = .ok [] ⟨r, h⟩ := id rfl
@[simp] theorem sBrk_ap : sBrk ⟨r, h⟩ = .bk ⟨r, h⟩ := id rfl
@[simp] theorem sCnt_ap : sCnt ⟨r, h⟩ = .ct ⟨r, h⟩ := id rfl
@[simp] theorem fNil_ap : fNil ⟨r, h⟩ = .ok [] ⟨r, h⟩ := id rfl
@[simp] theorem vNil_ap : vNil ⟨r, h⟩ = .ok [] ⟨r, h⟩ := id rfl
@[simp] theorem sNil_ap : sNil ⟨r, h⟩ = .nx ⟨r, h⟩ := id rfl
@[simp] theorem eC_ap (d : α) : eC d ⟨r, h⟩ = .ok d ⟨r, h⟩ := id rfl
@[simp] theorem tst_ok (b : Bool) (fr : Bool) (s : S) : tst (.ok (.bl b, fr) s) = .ok b s := id rfl
@[simp] theorem tst_ex (e : Xn) (s : S) : tst (.ex e s) = .ex e s := id rfl
@[simp] theorem hpz_ok (d : D) : hpz (.ok (d, true) ⟨r, h⟩) = .ok (.ref h.length) ⟨r, h ++ [d]⟩ := id rfl
@[simp] theorem S_set (i : Nat) (x : Sl) : S.set ⟨r, h⟩ i x = ⟨r.set i x, h⟩ := id rfl
/-- what a slot gives -/
def rdE (i : Nat) (r : List Sl) (h : List D) : Option Sl → Ou D
  | some (.fz d) => .ok d ⟨r, h⟩
  | some (.own false d) => .ok d ⟨r.set i (.fz d), h⟩
  | _ => .bad
def rdV (i : Nat) (r : List Sl) (h : List D) : Option Sl → Ou (D × Bool)
  | some (.fz d) => .ok (d, false) ⟨r, h⟩
  | some (.own false d) => .ok (d, true) ⟨r.set i .un, h⟩
  | _ => .bad
def rdA (i : Nat) (r : List Sl) (h : List D) : Option Sl → Ou Ar
  | some (.fz d) => .ok (.v d) ⟨r, h⟩
  | some (.own _ _) => .ok (.sl i) ⟨r, h⟩
  | _ => .bad
@[simp] theorem eVar_ap (i : Nat) : eVar i ⟨r, h⟩ = rdE i r h r[i]? := id rfl
@[simp] theorem vVar_ap (i : Nat) : vVar i ⟨r, h⟩ = rdV i r h r[i]? := id rfl
@[simp] theorem aVar_ap (i : Nat) : aVar i ⟨r, h⟩ = rdA i r h r[i]? := id rfl
@[simp] theorem rdE_fz (i : Nat) (d : D) : rdE i r h (some (.fz d)) = .ok d ⟨r, h⟩ := id rfl
@[simp] theorem rdE_own (i : Nat) (d : D) : rdE i r h (some (.own false d)) = .ok d ⟨r.set i (.fz d), h⟩ := id rfl
@[simp] theorem rdV_fz (i : Nat) (d : D) : rdV i r h (some (.fz d)) = .ok (d, false) ⟨r, h⟩ := id rfl
@[simp] theorem rdV_own (i : Nat) (d : D) : rdV i r h (some (.own false d)) = .ok (d, true) ⟨r.set i .un, h⟩ := id rfl
@[simp] theorem rdA_fz (i : Nat) (d : D) : rdA i r h (some (.fz d)) = .ok (.v d) ⟨r, h⟩ := id rfl
@[simp] theorem rdA_own (i : Nat) (lk : Bool) (d : D) : rdA i r h (some (.own lk d)) = .ok (.sl i) ⟨r, h⟩ := id rfl
/-- what a slot is -/
def lkS (h : List D) : Option Sl → Option D
  | some (.own _ d) => some d
  | some (.fz (.ref n)) => h[n]?
  | some (.fz d) => some d
  | _ => none
@[simp] theorem look_sl (i : Nat) : S.look ⟨r, h⟩ (.sl i) = lkS h r[i]? := by
  unfold S.look lkS
  dsimp only
  try (split <;> simp_all)
@[simp] theorem lkS_own (lk : Bool) (d : D) : lkS h (some (.own lk d)) = some d := id rfl
@[simp] theorem look_ref (n : Nat) : S.look ⟨r, h⟩ (.v (.ref n)) = h[n]? := id rfl
@[simp] theorem look_non : S.look s (.v .non) = some .non := id rfl
@[simp] theorem look_bl (b : Bool) : S.look s (.v (.bl b)) = some (.bl b) := id rfl
@[simp] theorem look_int (i : Int) : S.look s (.v (.int i)) = some (.int i) := id rfl
@[simp] theorem look_str (x : Str) : S.look s (.v (.str x)) = some (.str x) := id rfl
@[simp] theorem look_nd (k : Kd) (ds : List D) : S.look s (.v (.nd k ds)) = some (.nd k ds) := id rfl
@[simp] theorem look_exn (c : Str) (fs : List Str) (ds : List D) : S.look s (.v (.exn c fs ds)) = some (.exn c fs ds) := id rfl
def consO {α : Type} : Option α → Option (List α) → Option (List α)
  | some d, some ds => some (d :: ds)
  | _, _ => none
@[simp] theorem consO_ok {α : Type} (d : α) (ds : List α) : consO (some d) (some ds) = some (d :: ds) := id rfl
@[simp] theorem looks_nil : S.looks s [] = some [] := id rfl
@[simp] theorem looks_cons (x : Ar) (xs : List Ar) : S.looks ⟨r, h⟩ (x :: xs) = consO (S.look ⟨r, h⟩ x) (S.looks ⟨r, h⟩ xs) := by
  rw [show S.looks ⟨r, h⟩ (x :: xs) = (match S.look ⟨r, h⟩ x, S.looks ⟨r, h⟩ xs with | some d, some ds => some (d :: ds) | _, _ => none) from rfl]
  cases S.look ⟨r, h⟩ x <;> cases S.looks ⟨r, h⟩ xs <;> rfl
@[simp] theorem put_ref (d' : D) (n : Nat) : S.put ⟨r, h⟩ d' (.v (.ref n)) = some ⟨r, h.set n d'⟩ := id rfl
def ptS (i : Nat) (r : List Sl) (h : List D) (d' : D) : Option Sl → Option S
  | some (.own false _) => some ⟨r.set i (.own false d'), h⟩
  | some (.fz (.ref n)) => some ⟨r, h.set n d'⟩
  | _ => none
@[simp] theorem put_sl (d' : D) (i : Nat) : S.put ⟨r, h⟩ d' (.sl i) = ptS i r h d' r[i]? := by
  unfold S.put ptS
  dsimp only
  try (split <;> simp_all)
@[simp] theorem ptS_own (i : Nat) (d d' : D) : ptS i r h d' (some (.own false d)) = some ⟨r.set i (.own false d'), h⟩ := id rfl
def gdS (i : Nat) : Option Sl → Gd
  | some (.own lk _) => .sl i lk
  | some (.fz (.ref n)) => .hp n
  | _ => .non
@[simp] theorem gdOf_sl (i : Nat) : gdOf ⟨r, h⟩ (.sl i) = gdS i r[i]? := by
  unfold gdOf gdS
  dsimp only
  try (split <;> simp_all)
@[simp] theorem gdS_own (i : Nat) (lk : Bool) (d : D) : gdS i (some (.own lk d)) = .sl i lk := id rfl
@[simp] theorem gdOf_ref (n : Nat) : gdOf s (.v (.ref n)) = .hp n := id rfl
@[simp] theorem gdOf_nd (k : Kd) (ds : List D) : gdOf s (.v (.nd k ds)) = .non := id rfl
@[simp] theorem gdOf_str (x : Str) : gdOf s (.v (.str x)) = .non := id rfl
@[simp] theorem lend_sl (i : Nat) (lk : Bool) (d : D) : Gd.lend (.sl i lk) d ⟨r, h⟩ = ⟨r.set i (.own true d), h⟩ := id rfl
@[simp] theorem lend_hp (n : Nat) (d : D) : Gd.lend (.hp n) d s = s := id rfl
@[simp] theorem unlend_sl (i : Nat) (lk : Bool) (d : D) : Gd.unlend (.sl i lk) d ⟨r, h⟩ = ⟨r.set i (.own lk d), h⟩ := id rfl
@[simp] theorem unlend_hp (n : Nat) (d : D) : Gd.unlend (.hp n) d s = s := id rfl
def pt1 (i : Nat) (r : List Sl) (h : List D) (x : Sl) : Option Sl → OutS
  | some (.own true _) => .bad
  | some _ => .nx ⟨r.set i x, h⟩
  | none => .bad
@[simp] theorem sPut_T (i : Nat) (d : D) : sPut i d true ⟨r, h⟩ = pt1 i r h (.own false d) r[i]? := by
  unfold sPut pt1 slOf
  dsimp only
  try (split <;> simp_all)
@[simp] theorem sPut_F (i : Nat) (d : D) : sPut i d false ⟨r, h⟩ = pt1 i r h (.fz d) r[i]? := by
  unfold sPut pt1 slOf
  dsimp only
  try (split <;> simp_all)
@[simp] theorem pt1_un (i : Nat) (x : Sl) : pt1 i r h x (some .un) = .nx ⟨r.set i x, h⟩ := id rfl
@[simp] theorem pt1_fz (i : Nat) (x : Sl) (d : D) : pt1 i r h x (some (.fz d)) = .nx ⟨r.set i x, h⟩ := id rfl
@[simp] theorem pt1_own (i : Nat) (x : Sl) (d : D) : pt1 i r h x (some (.own false d)) = .nx ⟨r.set i x, h⟩ := id rfl
@[simp] theorem putsL_nil : putsL [] [] s = .nx s := id rfl
@[simp] theorem putsL_cons (i : Nat) (is : List Nat) (a : D × Bool) (as : List (D × Bool)) : putsL (i :: is) (a :: as) ⟨r, h⟩ = (sPut i a.1 a.2 ⟨r, h⟩).seq (putsL is as) := id rfl
def gt1 (i : Nat) (r : List Sl) (h : List D) (d : D) : Option Sl → Option S
  | some (.own true _) => none
  | some _ => some ⟨r.set i (.fz d), h⟩
  | none => none
@[simp] theorem gtName_ap (i : Nat) (d : D) : gtName i d ⟨r, h⟩ = gt1 i r h d r[i]? := by
  unfold gtName gt1
  dsimp only
  try (split <;> simp_all)
@[simp] theorem gt1_un (i : Nat) (d : D) : gt1 i r h d (some .un) = some ⟨r.set i (.fz d), h⟩ := id rfl
@[simp] theorem gt1_fz (i : Nat) (d e : D) : gt1 i r h d (some (.fz e)) = some ⟨r.set i (.fz d), h⟩ := id rfl
@[simp] theorem gt1_own (i : Nat) (d e : D) : gt1 i r h d (some (.own false e)) = some ⟨r.set i (.fz d), h⟩ := id rfl
@[simp] theorem gtNil_ap : gtNil [] s = some s := id rfl
def andT (ms : List D → S → Option S) (ds : List D) : Option S → Option S
  | some s => ms ds s
  | none => none
@[simp] theorem andT_some (ms : List D → S → Option S) (ds : List D) (s : S) : andT ms ds (some s) = ms ds s := id rfl
@[simp] theorem gtCons_ap (m : Tg) (ms : List D → S → Option S) (d : D) (ds : List D) : gtCons m ms (d :: ds) ⟨r, h⟩ = andT ms ds (m d ⟨r, h⟩) := by
  show (match m d ⟨r, h⟩ with | some s1 => ms ds s1 | none => none) = _
  cases m d ⟨r, h⟩ <;> rfl
@[simp] theorem gtTup_ap (n : Nat) (ms : List D → S → Option S) (ds : List D) : gtTup n ms (.nd .tup ds) s = if ds.length = n then ms ds s else none := id rfl
@[simp] theorem wipe_nil : S.wipe s [] = s := id rfl
@[simp] theorem wipe_cons (v : Nat) (vs : List Nat) : S.wipe s (v :: vs) = (s.wipe vs).set v .un := id rfl
@[simp] theorem back_nil {s0 : S} : S.back s0 s [] = s := id rfl
def bk1 (s : S) (v : Nat) : Option Sl → S
  | some x => s.set v x
  | none => s
@[simp] theorem bk1_some (v : Nat) (x : Sl) : bk1 s v (some x) = s.set v x := id rfl
@[simp] theorem back_cons (v : Nat) (vs : List Nat) : S.back ⟨r, h⟩ s (v :: vs) = bk1 (S.back ⟨r, h⟩ s vs) v r[v]? := by
  show (match r[v]? with | some x => (S.back ⟨r, h⟩ s vs).set v x | none => S.back ⟨r, h⟩ s vs) = _
  cases r[v]? <;> rfl
def bar1 : Option Sl → Bool
  | some (.own _ _) => false
  | some _ => true
  | none => false
@[simp] theorem bare_nil : S.bare s [] = true := id rfl
@[simp] theorem bare_cons (v : Nat) (vs : List Nat) : S.bare ⟨r, h⟩ (v :: vs) = (bar1 r[v]? && S.bare ⟨r, h⟩ vs) := by
  show ((match r[v]? with | some (.own _ _) => false | some _ => true | none => false) && vs.all _) = _
  congr 1
@[simp] theorem bar1_un : bar1 (some .un) = true := id rfl
@[simp] theorem bar1_fz (d : D) : bar1 (some (.fz d)) = true := id rfl
/-- an operation's end -/
def opE (s : S) : Option (D × Bool) → Ou (D × Bool)
  | some r => .ok r s
  | none => .bad
@[simp] theorem opE_some (a : D × Bool) : opE s (some a) = .ok a s := id rfl
def bindO {α β : Type} : Option α → (α → Option β) → Option β
  | some a, f => f a
  | none, _ => none
@[simp] theorem bindO_some {α β : Type} (a : α) (f : α → Option β) : bindO (some a) f = f a := id rfl
@[simp] theorem ap2_ap (g : D → D → Option (D × Bool)) (x y : Ar) : ap2 g x y ⟨r, h⟩ = opE ⟨r, h⟩ (bindO (S.look ⟨r, h⟩ x) fun a => bindO (S.look ⟨r, h⟩ y) fun b => g a b) := by
  unfold ap2
  cases S.look ⟨r, h⟩ x with
  | none => rfl
  | some a =>
    cases S.look ⟨r, h⟩ y with
    | none => rfl
    | some b =>
      simp only [bindO_some]
      cases g a b <;> rfl
@[simp] theorem apN_ap (g : List D → Option (D × Bool)) (xs : List Ar) : apN g xs ⟨r, h⟩ = opE ⟨r, h⟩ (bindO (S.looks ⟨r, h⟩ xs) g) := by
  unfold apN
  cases S.looks ⟨r, h⟩ xs with
  | none => rfl
  | some a =>
    simp only [bindO_some]
    cases g a <;> rfl
def calE (r : List Sl) : OutF → Ou (D × Bool)
  | .ok d fr h' => .ok (d, fr) ⟨r, h'⟩
  | .ex e h' => .ex e ⟨r, h'⟩
  | .bad => .bad
@[simp] theorem calE_ok (d : D) (fr : Bool) (h' : List D) : calE r (.ok d fr h') = .ok (d, fr) ⟨r, h'⟩ := id rfl
@[simp] theorem calE_ex (e : Xn) (h' : List D) : calE r (.ex e h') = .ex e ⟨r, h'⟩ := id rfl
@[simp] theorem apF_ap (F : List D → List D → OutF) (ds : List D) : apF F ds ⟨r, h⟩ = calE r (F ds h) := by
  unfold apF calE
  cases F ds h <;> rfl
@[simp] theorem sFor_ap (it : S → Ou Wk) (m : Tg) (body : S → OutS) : sFor it m body ⟨r, h⟩ = ((it ⟨r, h⟩).thn fun wk s1 => forL wk.g wk.node m body wk.items (wk.g.lend wk.node s1)) := id rfl
@[simp] theorem eLc_ap (it : S → Ou Wk) (vs : List Nat) (m : Tg) (fc : S → Ou Bool) (fe : S → Ou D) : eLc it vs m fc fe ⟨r, h⟩ = ((it ⟨r, h⟩).bind fun wk s1 =>
  if s1.bare vs = true then lcL wk.g wk.node vs s1 m fc fe wk.items [] ((wk.g.lend wk.node s1).wipe vs) else .bad) := id rfl
@[simp] theorem sTryAs_ap (xs : List (Str × Bool)) (i : Nat) (fb fs : S → OutS) : sTryAs xs i fb fs ⟨r, h⟩ = (match fb ⟨r, h⟩ with
  | .ex e s1 => match xs.lookup e.c with
    | some true => if s1.lk i = true then .bad else goneAt i (fs (s1.set i (.fz (.exn e.c e.fs e.ds))))
    | some false => .ex e s1
    | none => .bad
  | o => o) := by
  unfold sTryAs
  rfl
@[simp] theorem lk_ap (i : Nat) : S.lk ⟨r, h⟩ i = (match r[i]? with
  | some (.own true _) => true
  | some _ => false
  | none => true) := id rfl
@[simp] theorem gone_nx (i : Nat) (s : S) : goneAt i (.nx s) = if s.lk i = true then .bad else .nx (s.set i .un) := id rfl
@[simp] theorem gone_rt (i : Nat) (d : D) (fr : Bool) (s : S) : goneAt i (.rt d fr s) = .rt d fr s := id rfl
@[simp] theorem eIf_ap {α : Type} (fc : S → Ou Bool) (fa fb : S → Ou α) : eIf fc fa fb ⟨r, h⟩ = ((fc ⟨r, h⟩).bind fun b s1 => if b = true then fa s1 else fb s1) := id rfl
@[simp] theorem eAnd_ap (fa : S → Ou Bool) (fb : S → Ou (D × Bool)) : eAnd fa fb ⟨r, h⟩ = ((fa ⟨r, h⟩).bind fun b s1 => if b = true then fb s1 else .ok (.bl false, false) s1) := id rfl
@[simp] theorem eOr_ap (fa : S → Ou Bool) (fb : S → Ou (D × Bool)) : eOr fa fb ⟨r, h⟩ = ((fa ⟨r, h⟩).bind fun b s1 => if b = true then .ok (.bl true, false) s1 else fb s1) := id rfl
@[simp] theorem eNot_ap (fa : S → Ou Bool) : eNot fa ⟨r, h⟩ = ((fa ⟨r, h⟩).bind fun b s1 => .ok (.bl (!b), false) s1) := id rfl
@[simp] theorem tAnd_ap (fa fb : S → Ou Bool) : tAnd fa fb ⟨r, h⟩ = ((fa ⟨r, h⟩).bind fun b s1 => if b = true then fb s1 else .ok false s1) := id rfl
@[simp] theorem tOr_ap (fa fb : S → Ou Bool) : tOr fa fb ⟨r, h⟩ = ((fa ⟨r, h⟩).bind fun b s1 => if b = true then .ok true s1 else fb s1) := id rfl
@[simp] theorem tNot_ap (fa : S → Ou Bool) : tNot fa ⟨r, h⟩ = ((fa ⟨r, h⟩).bind fun b s1 => .ok (!b) s1) := id rfl
@[simp] theorem eChain_ap (g g' : D → D → Option (D × Bool)) (fa fb fc : S → Ou Ar) : eChain g g' fa fb fc ⟨r, h⟩ = ((fa ⟨r, h⟩).bind fun x s1 => (fb s1).bind fun y s2 => (tst (ap2 g x y s2)).bind fun k s3 => if k = true then (fc s3).bind fun z s4 => ap2 g' y z s4 else .ok (.bl false, false) s3) := id rfl
@[simp] theorem eTup_ap (fs : S → Ou (List D)) : eTup fs ⟨r, h⟩ = ((fs ⟨r, h⟩).bind fun ds s1 => if ds.length ≤ 1000 then .ok (.nd .tup ds) s1 else .bad) := id rfl
@[simp] theorem eLst_ap (fs : S → Ou (List D)) : eLst fs ⟨r, h⟩ = ((fs ⟨r, h⟩).bind fun ds s1 => if ds.length ≤ 1000 then .ok (.nd .lst ds, true) s1 else .bad) := id rfl
@[simp] theorem eOp2_ap (g : D → D → Option (D × Bool)) (fa fb : S → Ou Ar) : eOp2 g fa fb ⟨r, h⟩ = ((fa ⟨r, h⟩).bind fun x s1 => (fb s1).bind fun y s2 => ap2 g x y s2) := id rfl
@[simp] theorem eOpN_ap (g : List D → Option (D × Bool)) (fs : S → Ou (List Ar)) : eOpN g fs ⟨r, h⟩ = ((fs ⟨r, h⟩).bind fun xs s1 => apN g xs s1) := id rfl
@[simp] theorem aCons_ap (fa : S → Ou Ar) (fr : S → Ou (List Ar)) : aCons fa fr ⟨r, h⟩ = ((fa ⟨r, h⟩).bind fun x s1 => (fr s1).bind fun xs s2 => .ok (x :: xs) s2) := id rfl
@[simp] theorem fCons_ap (fa : S → Ou D) (fr : S → Ou (List D)) : fCons fa fr ⟨r, h⟩ = ((fa ⟨r, h⟩).bind fun x s1 => (fr s1).bind fun xs s2 => .ok (x :: xs) s2) := id rfl
@[simp] theorem vCons_ap (fa : S → Ou (D × Bool)) (fr : S → Ou (List (D × Bool))) : vCons fa fr ⟨r, h⟩ = ((fa ⟨r, h⟩).bind fun x s1 => (fr s1).bind fun xs s2 => .ok (x :: xs) s2) := id rfl
@[simp] theorem eCall_ap (F : List D → List D → OutF) (fs : S → Ou (List D)) : eCall F fs ⟨r, h⟩ = ((fs ⟨r, h⟩).bind fun ds s1 => apF F ds s1) := id rfl
@[simp] theorem eCallK_ap (F : List D → List D → List D → OutF) (fs fk : S → Ou (List D)) : eCallK F fs fk ⟨r, h⟩ = ((fs ⟨r, h⟩).bind fun ds s1 => (fk s1).bind fun es s2 => apF (F ds) es s2) := id rfl
@[simp] theorem sSeq_ap (f g : S → OutS) : sSeq f g ⟨r, h⟩ = ((f ⟨r, h⟩).seq g) := id rfl
@[simp] theorem sExpr_ap {α : Type} (f : S → Ou α) : sExpr f ⟨r, h⟩ = ((f ⟨r, h⟩).thn fun _ s1 => .nx s1) := id rfl
@[simp] theorem sRet_ap (f : S → Ou (D × Bool)) : sRet f ⟨r, h⟩ = ((f ⟨r, h⟩).thn fun a s1 => .rt a.1 a.2 s1) := id rfl
@[simp] theorem sRetN_ap  : sRetN  ⟨r, h⟩ = (.rt .non false ⟨r, h⟩) := id rfl
@[simp] theorem sIf_ap (fc : S → Ou Bool) (f g : S → OutS) : sIf fc f g ⟨r, h⟩ = ((fc ⟨r, h⟩).thn fun b s1 => if b = true then f s1 else g s1) := id rfl
@[simp] theorem sSet_ap (i : Nat) (f : S → Ou (D × Bool)) : sSet i f ⟨r, h⟩ = ((f ⟨r, h⟩).thn fun a s1 => sPut i a.1 a.2 s1) := id rfl
@[simp] theorem sPar_ap (is : List Nat) (f : S → Ou (List (D × Bool))) : sPar is f ⟨r, h⟩ = ((f ⟨r, h⟩).thn fun as s1 => putsL is as s1) := id rfl
@[simp] theorem sRaise0_ap (c : Str) : sRaise0 c ⟨r, h⟩ = (.ex ⟨c, [], []⟩ ⟨r, h⟩) := id rfl
@[simp] theorem sRaise1_ap (c f : Str) (fe : S → Ou D) : sRaise1 c f fe ⟨r, h⟩ = ((fe ⟨r, h⟩).thn fun d s1 => .ex ⟨c, [f], [d]⟩ s1) := id rfl
@[simp] theorem sUnp_ap (m : Tg) (fe : S → Ou D) : sUnp m fe ⟨r, h⟩ = ((fe ⟨r, h⟩).thn fun d s1 => match m d s1 with
  | some s2 => .nx s2
  | none => .bad) := id rfl
@[simp] theorem sStar_ap (is : List Nat) (i : Nat) (fe : S → Ou D) : sStar is i fe ⟨r, h⟩ = ((fe ⟨r, h⟩).thn fun d s1 => match seqD d with
  | some ds => if is.length ≤ ds.length + 1 then putsL is ((ds.take i).map (fun d => (d, false)) ++ [(.nd .lst ((ds.drop i).take (ds.length + 1 - is.length)), true)] ++ ((ds.drop i).drop (ds.length + 1 - is.length)).map (fun d => (d, false))) s1 else .bad
  | none => .bad) := id rfl
@[simp] theorem sSub_ap (g : D → D → D → Option D) (fe : S → Ou D) (fo : S → Ou Ar) (fi : S → Ou D) : sSub g fe fo fi ⟨r, h⟩ = ((fe ⟨r, h⟩).thn fun e s1 => (fo s1).thn fun x s2 => (fi s2).thn fun i s3 => match s3.look x with
  | some d => match g d i e with
    | some d' => match s3.put d' x with
      | some s4 => .nx s4
      | none => .bad
    | none => .bad
  | none => .bad) := id rfl
@[simp] theorem eMut_ap (T : String) (g : D → List D → Option (D × D)) (fo : S → Ou Ar) (fs : S → Ou (List D)) : eMut T g fo fs ⟨r, h⟩ = ((fo ⟨r, h⟩).bind fun x s1 => match s1.look x with
  | some d => if tyD d = T then (fs s1).bind fun ds s2 => (match s2.look x with
      | some d => (match g d ds with
        | some r => (match s2.put r.1 x with
          | some s3 => .ok r.2 s3
          | none => .bad)
        | none => .bad)
      | none => .bad) else .bad
  | none => .bad) := id rfl
@[simp] theorem eMeth_ap (T : String) (g : D → List D → Option (D × Bool)) (fo : S → Ou Ar) (fs : S → Ou (List Ar)) : eMeth T g fo fs ⟨r, h⟩ = ((fo ⟨r, h⟩).bind fun x s1 => match s1.look x with
  | some d => if tyD d = T then (fs s1).bind fun xs s2 => (match s2.look x, s2.looks xs with
      | some d, some ds => (match g d ds with
        | some r => .ok r s2
        | none => .bad)
      | _, _ => .bad) else .bad
  | none => .bad) := id rfl
@[simp] theorem eIsi_ap (us : List String) (fa : S → Ou Ar) : eIsi us fa ⟨r, h⟩ = ((fa ⟨r, h⟩).bind fun x s1 => match s1.look x with
  | some d => match tyName d with
    | some T => .ok (.bl (us.any (isiB T)), false) s1
    | none => .bad
  | none => .bad) := id rfl
@[simp] theorem eIsX_ap (xs : List (Str × Bool)) (fa : S → Ou Ar) : eIsX xs fa ⟨r, h⟩ = ((fa ⟨r, h⟩).bind fun x s1 => match s1.look x with
  | some (.exn c _ _) => match xs.lookup c with
    | some b => .ok (.bl b, false) s1
    | none => .bad
  | some d => match tyName d with
    | some _ => .ok (.bl false, false) s1
    | none => .bad
  | none => .bad) := id rfl
@[simp] theorem eFldX_ap (cs : List Str) (f : Str) (fa : S → Ou Ar) : eFldX cs f fa ⟨r, h⟩ = ((fa ⟨r, h⟩).bind fun x s1 => match s1.look x with
  | some (.exn c fs ds) => if cs.contains c = true then (match (fs.zip ds).lookup f with
    | some d => .ok (d, false) s1
    | none => .bad) else .bad
  | _ => .bad) := id rfl
@[simp] theorem ktIn_ap (t : List (Str × D)) (neg : Bool) (fe : S → Ou D) : ktIn t neg fe ⟨r, h⟩ = ((fe ⟨r, h⟩).bind fun d s1 => match d with
  | .str x => .ok (.bl ((tabAt t x).isSome != neg), false) s1
  | _ => .bad) := id rfl
@[simp] theorem ktIx_ap (t : List (Str × D)) (fe : S → Ou D) : ktIx t fe ⟨r, h⟩ = ((fe ⟨r, h⟩).bind fun d s1 => match d with
  | .str x => match tabAt t x with
    | some e => .ok (e, false) s1
    | none => .bad
  | _ => .bad) := id rfl
@[simp] theorem ktGet_ap (t : List (Str × D)) (ff : S → Ou (List D)) : ktGet t ff ⟨r, h⟩ = ((ff ⟨r, h⟩).bind fun ds s1 => match ds with
  | [.str x] => .ok ((tabAt t x).getD .non, false) s1
  | _ => .bad) := id rfl
@[simp] theorem oInt_ap (f : S → Ou D) : oInt f ⟨r, h⟩ = ((f ⟨r, h⟩).bind fun d s1 => match d with
  | .int i => .ok (some i) s1
  | _ => .bad) := id rfl
@[simp] theorem eSlc_ap (fa : S → Ou Ar) (fl fh : S → Ou (Option Int)) : eSlc fa fl fh ⟨r, h⟩ = ((fa ⟨r, h⟩).bind fun x s1 => (fl s1).bind fun lo s2 => (fh s2).bind fun hi s3 => match s3.look x with
  | some d => match slcG d lo hi with
    | some r => .ok r s3
    | none => .bad
  | none => .bad) := id rfl
@[simp] theorem iLst_ap (fa : S → Ou Ar) : iLst fa ⟨r, h⟩ = ((fa ⟨r, h⟩).bind fun x s1 => match s1.look x with
  | some (.nd .lst ds) => .ok ⟨gdOf s1 x, .nd .lst ds, ds⟩ s1
  | _ => .bad) := id rfl
@[simp] theorem iTup_ap (fa : S → Ou Ar) : iTup fa ⟨r, h⟩ = ((fa ⟨r, h⟩).bind fun x s1 => match s1.look x with
  | some (.nd .tup ds) => .ok ⟨gdOf s1 x, .nd .tup ds, ds⟩ s1
  | _ => .bad) := id rfl
@[simp] theorem iSeq_ap (fa : S → Ou Ar) : iSeq fa ⟨r, h⟩ = ((fa ⟨r, h⟩).bind fun x s1 => match s1.look x with
  | some (.nd .lst ds) => .ok ⟨gdOf s1 x, .nd .lst ds, ds⟩ s1
  | some (.nd .tup ds) => .ok ⟨gdOf s1 x, .nd .tup ds, ds⟩ s1
  | _ => .bad) := id rfl
@[simp] theorem iStr_ap (fa : S → Ou Ar) : iStr fa ⟨r, h⟩ = ((fa ⟨r, h⟩).bind fun x s1 => match s1.look x with
  | some (.str z) => .ok ⟨.non, .non, z.cps.toList.map fun c => .str ⟨#[c]⟩⟩ s1
  | _ => .bad) := id rfl
/-- a range's walk -/
def rngO0 (s : S) : Option (List D) → Ou Wk
  | some [.int j] => if -(2 ^ 62) ≤ j ∧ j < 2 ^ 62 then .ok ⟨.non, .non, (List.range j.toNat).map fun (i : Nat) => .int (i : Int)⟩ s else .bad
  | _ => .bad
noncomputable def rngO (s : S) (o : Option (List D)) : Ou Wk := hide (rngO0 s o)
@[simp] theorem rngO_int (s : S) (j : Int) (h0 : -1000 ≤ j) (h1 : j ≤ 1000000000) : rngO s (some [.int j]) = .ok ⟨.non, .non, (List.range j.toNat).map fun (i : Nat) => .int (i : Int)⟩ s := by
  unfold rngO
  rw [hide_eq]
  unfold rngO0
  dsimp only
  rw [if_pos (by omega)]
@[simp] theorem iRng1_ap (fs : S → Ou (List Ar)) : iRng1 fs ⟨r, h⟩ = ((fs ⟨r, h⟩).bind fun xs s1 => rngO s1 (s1.looks xs)) := by
  have e : ∀ s o, rngO s o = rngO0 s o := fun s o => hide_eq _
  simp only [e]
  rw [iRng1_eq]
  unfold iRng1q
  congr 1
@[simp] theorem iEnum_ap (fs : S → Ou (List Ar)) : iEnum fs ⟨r, h⟩ = ((fs ⟨r, h⟩).bind fun xs s1 => match xs with
  | [x] => match s1.look x with
    | some d => match itemsD d with
      | some es => .ok ⟨gdOf s1 x, d, enumD 0 es⟩ s1
      | none => .bad
    | none => .bad
  | _ => .bad) := id rfl
@[simp] theorem iZip_ap (ff : S → Ou (List D)) : iZip ff ⟨r, h⟩ = ((ff ⟨r, h⟩).bind fun ds s1 => match ds with
  | [d, e] => match itemsD d, itemsD e with
    | some as, some bs => .ok ⟨.non, .non, zipD as bs⟩ s1
    | _, _ => .bad
  | _ => .bad) := id rfl
end
/-! operations -/
@[simp] theorem leG_int (i j : Int) : leG (.int i) (.int j) = some (.bl (decide (i ≤ j)), false) := id rfl
@[simp] theorem ltG_int (i j : Int) : ltG (.int i) (.int j) = some (.bl (decide (i < j)), false) := id rfl
@[simp] theorem geG_int (i j : Int) : geG (.int i) (.int j) = some (.bl (decide (j ≤ i)), false) := id rfl
@[simp] theorem gtG_int (i j : Int) : gtG (.int i) (.int j) = some (.bl (decide (j < i)), false) := id rfl
@[simp] theorem subG_int (i j : Int) : subG (.int i) (.int j) = some (.int (i - j), false) := id rfl
@[simp] theorem addG_int (i j : Int) : addG (.int i) (.int j) = some (.int (i + j), false) := id rfl
@[simp] theorem addG_str (a b : Str) : addG (.str a) (.str b) = if a.length + b.length ≤ sizeLine then some (.str (a ++ b), false) else none := id rfl
@[simp] theorem addG_lst (xs ys : List D) : addG (.nd .lst xs) (.nd .lst ys) = if xs.length + ys.length ≤ sizeLine then some (.nd .lst (xs ++ ys), true) else none := id rfl
@[simp] theorem addG_tup (xs ys : List D) : addG (.nd .tup xs) (.nd .tup ys) = if xs ≠ [] ∧ ys ≠ [] ∧ xs.length + ys.length ≤ sizeLine then some (.nd .tup (xs ++ ys), false) else none := id rfl
theorem modG_int (i j : Int) (h : 0 < j) : modG (.int i) (.int j) = some (.int (i % j), false) := by
  unfold modG
  rw [intG_eq]
  show (if decide (0 < j) = true then _ else _) = _
  rw [if_pos (decide_eq_true h)]
theorem fdivG_int (i j : Int) (h : 0 < j ∧ j < 2 ^ 64) : fdivG (.int i) (.int j) = some (.int (i / j), false) := by
  unfold fdivG
  rw [intG_eq]
  show (if decide (0 < j ∧ j < 2 ^ 64) = true then _ else _) = _
  rw [if_pos (decide_eq_true h)]
theorem mulG_int (i j : Int) (h : (-(2 ^ 64) < i ∧ i < 2 ^ 64) ∨ (-(2 ^ 64) < j ∧ j < 2 ^ 64)) : mulG (.int i) (.int j) = some (.int (i * j), false) := by
  unfold mulG
  rw [intG_eq]
  show (if decide ((-(2 ^ 64) < i ∧ i < 2 ^ 64) ∨ (-(2 ^ 64) < j ∧ j < 2 ^ 64)) = true then _ else _) = _
  rw [if_pos (decide_eq_true h)]
theorem powG_int (i j : Int) (h : 0 ≤ j ∧ j ≤ 1000000 ∧ i.natAbs < 2 ^ 64) : powG (.int i) (.int j) = some (.int (i ^ j.toNat), false) := by
  unfold powG
  rw [intG_eq]
  show (if decide (0 ≤ j ∧ j ≤ 1000000 ∧ i.natAbs < 2 ^ 64) = true then _ else _) = _
  rw [if_pos (decide_eq_true h)]
@[simp] theorem eqG_int (a b : Int) : eqG (.int a) (.int b) = some (.bl (decide (a = b)), false) := by
  unfold eqG
  simp [flatD, L2.scal]
@[simp] theorem neG_int (a b : Int) : neG (.int a) (.int b) = some (.bl (!decide (a = b)), false) := by
  unfold neG
  simp [flatD, L2.scal]
@[simp] theorem eqG_str (a b : Str) : eqG (.str a) (.str b) = some (.bl (decide (a = b)), false) := by
  unfold eqG
  simp [flatD, L2.scal]
@[simp] theorem neG_str (a b : Str) : neG (.str a) (.str b) = some (.bl (!decide (a = b)), false) := by
  unfold neG
  simp [flatD, L2.scal]
@[simp] theorem neG_non_int (b : Int) : neG .non (.int b) = some (.bl true, false) := id rfl
@[simp] theorem eqG_non_int (b : Int) : eqG .non (.int b) = some (.bl false, false) := id rfl
@[simp] theorem isNG_non (neg : Bool) (x : D) : isNG neg x .non = some (.bl (neg ^^ isN x), false) := id rfl
@[simp] theorem isN_non : isN .non = true := id rfl
@[simp] theorem isN_int (i : Int) : isN (.int i) = false := id rfl
@[simp] theorem isN_str (x : Str) : isN (.str x) = false := id rfl
@[simp] theorem isN_nd (k : Kd) (ds : List D) : isN (.nd k ds) = false := id rfl
@[simp] theorem lenG_lst (ds : List D) : lenG [.nd .lst ds] = some (.int ds.length, false) := id rfl
@[simp] theorem lenG_tup (ds : List D) : lenG [.nd .tup ds] = some (.int ds.length, false) := id rfl
@[simp] theorem lenG_scr (ds : List D) : lenG [.nd .scr ds] = some (.int ds.length, false) := id rfl
@[simp] theorem lenG_str (z : Str) : lenG [.str z] = if z.length ≤ sizeLine then some (.int z.length, false) else none := id rfl
@[simp] theorem listG_lst (ds : List D) : listG [.nd .lst ds] = some (.nd .lst ds, true) := id rfl
@[simp] theorem listG_tup (ds : List D) : listG [.nd .tup ds] = some (.nd .lst ds, true) := id rfl
@[simp] theorem listG_scr (ds : List D) : listG [.nd .scr ds] = some (.nd .lst ds, true) := id rfl
@[simp] theorem tupleG_lst (ds : List D) : tupleG [.nd .lst ds] = some (.nd .tup ds, false) := id rfl
@[simp] theorem tupleG_tup (ds : List D) : tupleG [.nd .tup ds] = some (.nd .tup ds, false) := id rfl
@[simp] theorem maxG_int (i j : Int) : maxG [.int i, .int j] = some (.int (if j > i then j else i), false) := id rfl
@[simp] theorem minG_int (i j : Int) : minG [.int i, .int j] = some (.int (if j < i then j else i), false) := id rfl
@[simp] theorem strG_str (z : Str) : strG [.str z] = some (.str z, false) := by rw [strG_eq]; rfl
theorem strG_int (i : Int) (h : i.natAbs < 2 ^ 64) : strG [.int i] = some (.str (toString i : String), false) := by
  rw [strG_eq]
  show (if i.natAbs < 2 ^ 64 then _ else _) = _
  rw [if_pos h]
@[simp] theorem seqD_lst (ds : List D) : seqD (.nd .lst ds) = some ds := id rfl
@[simp] theorem seqD_tup (ds : List D) : seqD (.nd .tup ds) = some ds := id rfl
@[simp] theorem itemsD_lst (ds : List D) : itemsD (.nd .lst ds) = some ds := id rfl
@[simp] theorem itemsD_tup (ds : List D) : itemsD (.nd .tup ds) = some ds := id rfl
@[simp] theorem itemsD_str (x : Str) : itemsD (.str x) = some (signsD x) := id rfl
@[simp] theorem tyName_non : tyName .non = some "NoneType" := id rfl
@[simp] theorem tyName_bl (b : Bool) : tyName (.bl b) = some "bool" := id rfl
@[simp] theorem tyName_int (i : Int) : tyName (.int i) = some "int" := id rfl
@[simp] theorem tyName_str (x : Str) : tyName (.str x) = some "str" := id rfl
@[simp] theorem tyName_tup (ds : List D) : tyName (.nd .tup ds) = some "tuple" := id rfl
@[simp] theorem tyName_lst (ds : List D) : tyName (.nd .lst ds) = some "list" := id rfl
@[simp] theorem tyName_dct (ds : List D) : tyName (.nd .dct ds) = some "dict" := id rfl
@[simp] theorem tyD_str (x : Str) : tyD (.str x) = "str" := id rfl
@[simp] theorem tyD_lst (ds : List D) : tyD (.nd .lst ds) = "list" := id rfl
@[simp] theorem tyD_dct (ds : List D) : tyD (.nd .dct ds) = "dict" := id rfl
@[simp] theorem isiB_eq (T U : String) : isiB T U = (T == U || (T == "bool" && U == "int")) := id rfl
@[simp] theorem appendG_ap (xs : List D) (x : D) : appendG (.nd .lst xs) [x] = if xs.length < sizeLine then some (.nd .lst (xs ++ [x]), .non) else none := id rfl
@[simp] theorem isBl_bl (b : Bool) : isBl (.bl b) = some b := id rfl
theorem bools_map {α : Type} (f : α → Bool) : ∀ l : List α, bools (l.map fun c => D.bl (f c)) = some (l.map f)
  | [] => rfl
  | a :: l => by
    rw [List.map_cons, List.map_cons]
    unfold bools
    rw [bools_map f l]
    rfl
theorem allG_map {α : Type} (f : α → Bool) (l : List α) : allG [.nd .lst (l.map fun c => D.bl (f c))] = some (.bl (l.all f), false) := by
  unfold allG
  dsimp only
  rw [bools_map]
  simp [List.all_map]
theorem anyG_map {α : Type} (f : α → Bool) (l : List α) : anyG [.nd .lst (l.map fun c => D.bl (f c))] = some (.bl (l.any f), false) := by
  unfold anyG
  dsimp only
  rw [bools_map]
  simp [List.any_map]
theorem ixG_lst (ds : List D) (i : Int) (d : D) (h : L2.atI ds i = some d) : ixG (.nd .lst ds) (.int i) = some (d, false) := by
  unfold ixG
  simp [h]
theorem ixG_tup (ds : List D) (i : Int) (d : D) (h : L2.atI ds i = some d) : ixG (.nd .tup ds) (.int i) = some (d, false) := by
  unfold ixG
  simp [h]
theorem atI_nat {α : Type} (xs : List α) (n : Nat) (x : α) (h : xs[n]? = some x) : L2.atI xs (n : Int) = some x := by
  have hl : n < xs.length := (List.getElem?_eq_some_iff.mp h).1
  unfold L2.atI L2.ixN
  rw [if_pos (by omega), if_pos (by omega)]
  simpa using h
@[simp] theorem ixG_l0 (a : D) (l : List D) : ixG (.nd .lst (a :: l)) (.int 0) = some (a, false) := ixG_lst _ _ _ (atI_nat (a :: l) 0 a rfl)
@[simp] theorem ixG_l1 (a b : D) (l : List D) : ixG (.nd .lst (a :: b :: l)) (.int 1) = some (b, false) := ixG_lst _ _ _ (atI_nat (a :: b :: l) 1 b rfl)
@[simp] theorem ixG_l2 (a b c : D) (l : List D) : ixG (.nd .lst (a :: b :: c :: l)) (.int 2) = some (c, false) := ixG_lst _ _ _ (atI_nat (a :: b :: c :: l) 2 c rfl)
@[simp] theorem ixG_l3 (a b c d : D) (l : List D) : ixG (.nd .lst (a :: b :: c :: d :: l)) (.int 3) = some (d, false) := ixG_lst _ _ _ (atI_nat (a :: b :: c :: d :: l) 3 d rfl)
@[simp] theorem ixG_t0 (a : D) (l : List D) : ixG (.nd .tup (a :: l)) (.int 0) = some (a, false) := ixG_tup _ _ _ (atI_nat (a :: l) 0 a rfl)
@[simp] theorem ixG_t1 (a b : D) (l : List D) : ixG (.nd .tup (a :: b :: l)) (.int 1) = some (b, false) := ixG_tup _ _ _ (atI_nat (a :: b :: l) 1 b rfl)
@[simp] theorem ixG_t2 (a b c : D) (l : List D) : ixG (.nd .tup (a :: b :: c :: l)) (.int 2) = some (c, false) := ixG_tup _ _ _ (atI_nat (a :: b :: c :: l) 2 c rfl)
@[simp] theorem ixG_t3 (a b c d : D) (l : List D) : ixG (.nd .tup (a :: b :: c :: d :: l)) (.int 3) = some (d, false) := ixG_tup _ _ _ (atI_nat (a :: b :: c :: d :: l) 3 d rfl)
@[simp] theorem ixG_t4 (a b c d e : D) (l : List D) : ixG (.nd .tup (a :: b :: c :: d :: e :: l)) (.int 4) = some (e, false) := ixG_tup _ _ _ (atI_nat (a :: b :: c :: d :: e :: l) 4 e rfl)
@[simp] theorem cut_1 {α : Type} (a : α) (l : List α) : cutL (a :: l) (some 1) none = l := by
  unfold cutL HT.sIx
  simp
@[simp] theorem slcG_lst (ds : List D) (lo hi : Option Int) : slcG (.nd .lst ds) lo hi = some (.nd .lst (cutL ds lo hi), true) := id rfl
/-! loops -/
/-- while: by an invariant with a measure -/
theorem whileN_inv {fc : S → Ou Bool} {fb : S → OutS} (I : Nat → S → Prop) (R : OutS → Prop) : ∀ (n m : Nat) (s : S), I m s → m < n →
    (∀ m s, I m s → (∃ s1, fc s = .ok false s1 ∧ R (.nx s1)) ∨ (∃ s1, fc s = .ok true s1 ∧ ((∃ s2 m2, (fb s1 = .nx s2 ∨ fb s1 = .ct s2) ∧ m2 < m ∧ I m2 s2) ∨ (∃ s2, fb s1 = .bk s2 ∧ R (.nx s2)) ∨ (∃ v fr s2, fb s1 = .rt v fr s2 ∧ R (.rt v fr s2)) ∨ (∃ e s2, fb s1 = .ex e s2 ∧ R (.ex e s2))))) →
    R (whileN fc fb n s)
  | 0, m, s, _, h, _ => by omega
  | n + 1, m, s, h, hn, hs => by
    unfold whileN
    rcases hs m s h with ⟨s1, e1, h1⟩ | ⟨s1, e1, ⟨s2, m2, e2 | e2, hm, h2⟩ | ⟨s2, e2, h2⟩ | ⟨v, fr, s2, e2, h2⟩ | ⟨e, s2, e2, h2⟩⟩
    · rw [e1]
      exact h1
    · rw [e1]
      simp only [Ou.thn_ok, if_true, e2]
      exact whileN_inv I R n m2 s2 h2 (by omega) hs
    · rw [e1]
      simp only [Ou.thn_ok, if_true, e2]
      exact whileN_inv I R n m2 s2 h2 (by omega) hs
    · rw [e1]
      simp only [Ou.thn_ok, if_true, e2]
      exact h2
    · rw [e1]
      simp only [Ou.thn_ok, if_true, e2]
      exact h2
    · rw [e1]
      simp only [Ou.thn_ok, if_true, e2]
      exact h2
theorem sWhile_inv {fc : S → Ou Bool} {fb : S → OutS} (I : Nat → S → Prop) (R : OutS → Prop) (m : Nat) (s : S) (h : I m s) (hm : m < 1000000)
    (hs : ∀ m s, I m s → (∃ s1, fc s = .ok false s1 ∧ R (.nx s1)) ∨ (∃ s1, fc s = .ok true s1 ∧ ((∃ s2 m2, (fb s1 = .nx s2 ∨ fb s1 = .ct s2) ∧ m2 < m ∧ I m2 s2) ∨ (∃ s2, fb s1 = .bk s2 ∧ R (.nx s2)) ∨ (∃ v fr s2, fb s1 = .rt v fr s2 ∧ R (.rt v fr s2)) ∨ (∃ e s2, fb s1 = .ex e s2 ∧ R (.ex e s2))))) : R (sWhile fc fb s) :=
  whileN_inv I R _ m s h (by rw [turns_eq]; exact hm) hs
/-- for: by an invariant over what is left, any holder -/
theorem forL_invG {g : Gd} {m : Tg} {body : S → OutS} {node : D} (I : List D → S → Prop) (R : OutS → Prop) : ∀ (ds : List D) (s : S), I ds s →
    (∀ d ds s, I (d :: ds) s → ∃ s1, m d s = some s1 ∧ ((∃ s2, (body s1 = .nx s2 ∨ body s1 = .ct s2) ∧ g.still node s2 = true ∧ I ds s2) ∨ (∃ s2, body s1 = .bk s2 ∧ g.still node s2 = true ∧ R (.nx (g.unlend node s2))) ∨ (∃ v fr s2, body s1 = .rt v fr s2 ∧ R (.rt v fr s2)) ∨ (∃ e s2, body s1 = .ex e s2 ∧ g.still node s2 = true ∧ R (.ex e (g.unlend node s2))))) →
    (∀ s, I [] s → R (.nx (g.unlend node s))) → R (forL g node m body ds s)
  | [], s, h, _, h0 => by
    unfold forL
    exact h0 s h
  | d :: ds, s, h, hs, h0 => by
    obtain ⟨s1, e1, h1⟩ := hs d ds s h
    unfold forL
    rw [e1]
    dsimp only
    rcases h1 with ⟨s2, e2 | e2, q, h2⟩ | ⟨s2, e2, q, h2⟩ | ⟨v, fr, s2, e2, h2⟩ | ⟨e, s2, e2, q, h2⟩
    · rw [e2]
      dsimp only
      rw [if_pos q]
      exact forL_invG I R ds s2 h2 hs h0
    · rw [e2]
      dsimp only
      rw [if_pos q]
      exact forL_invG I R ds s2 h2 hs h0
    · rw [e2]
      dsimp only
      rw [if_pos q]
      exact h2
    · rw [e2]
      exact h2
    · rw [e2]
      dsimp only
      rw [if_pos q]
      exact h2
/-- a comprehension by an invariant over what is left and what was gathered -/
theorem lcL_inv {g : Gd} {m : Tg} {fc : S → Ou Bool} {fe : S → Ou D} {node : D} {vs : List Nat} {s0 : S} (I : List D → List D → S → Prop) (R : Ou (D × Bool) → Prop) : ∀ (ds acc : List D) (s : S), I ds acc s → acc.length + ds.length ≤ sizeLine →
    (∀ d ds acc s, I (d :: ds) acc s → ∃ s1, m d s = some s1 ∧ ((∃ s2 y s3, fc s1 = .ok true s2 ∧ fe s2 = .ok y s3 ∧ g.still node s3 = true ∧ I ds (acc ++ [y]) (s3.wipe vs)) ∨ (∃ s2, fc s1 = .ok false s2 ∧ g.still node s2 = true ∧ I ds acc (s2.wipe vs)))) →
    (∀ acc s, I [] acc s → R (.ok (.nd .lst acc, true) (g.unlend node (S.back s0 s vs)))) → R (lcL g node vs s0 m fc fe ds acc s)
  | [], acc, s, h, _, _, h0 => by
    unfold lcL
    exact h0 acc s h
  | d :: ds, acc, s, h, hl, hs, h0 => by
    obtain ⟨s1, e1, h1⟩ := hs d ds acc s h
    rw [List.length_cons] at hl
    unfold lcL
    rw [e1]
    dsimp only
    rcases h1 with ⟨s2, y, s3, e2, e3, q, h2⟩ | ⟨s2, e2, q, h2⟩
    · rw [e2]
      dsimp only
      rw [e3]
      dsimp only
      rw [if_pos ⟨q, by omega⟩]
      exact lcL_inv I R ds _ _ h2 (by rw [List.length_append, List.length_singleton]; omega) hs h0
    · rw [e2]
      dsimp only
      rw [if_pos q]
      exact lcL_inv I R ds _ _ h2 (by omega) hs h0
end TD

end
section
set_option maxRecDepth 100000
set_option maxHeartbeats 4000000
/-! TeJ: xs[::-1], text * 0 or 1, tables written in place. -/
namespace TD
open PySem L2
section
variable {X : Cx} {e i : Expr} {pos : Pos}
theorem Reps.reverse {W : Wd} : ∀ {ds : List D} {vs : List V}, Reps W ds vs → Reps W ds.reverse vs.reverse
  | [], vs, h => by have e : vs = [] := h; rw [e]; rfl
  | d :: ds, _, ⟨v, r, e, h, t⟩ => by
    rw [e, List.reverse_cons, List.reverse_cons]
    exact Reps.append (Reps.reverse (ds := ds) t) ⟨v, [], rfl, h, rfl⟩
/-- -i -/
theorem PD.nint {i : Int} {j : Nat} {p1 : Pos} : PD kF X (.UnaryOp .USub (.Constant (.int i) j p1) pos) (eC (.int (-i))) := fun Wx tk =>
  PE.imp (pe_un un_neg pe_int) fun t H Q ⟨W, s, o, R, q⟩ => ⟨i, rfl, Po.pure q R rfl⟩
/-- a test: a if c else b -/
theorem pt_ifExp {a b c : Expr} {tA ta tb : TT} (hc : PT X c tA) (ha : PT X a ta) (hb : PT X b tb) : PT X (.IfExp c a b pos) (fun σ H Q => tA σ H fun d H1 => if d = true then ta σ H1 Q else tb σ H1 Q) := by
  refine ⟨fun pins s σ H Q I h => ?_⟩
  show wpAny _ _ (do if ← isTrue c X.env (eval c X.env) then isTrue a X.env (eval a X.env) else isTrue b X.env (eval b X.env)) _ _ _
  refine wpAny_bind (thn (hc.run pins s σ H _ I h) fun d s1 ⟨H1, I1, q1⟩ => ?_)
  cases d with
  | true => exact ha.run pins s1 σ H1 Q I1 q1
  | false => exact hb.run pins s1 σ H1 Q I1 q1
theorem PTD.ifx {a b c : Expr} {fc fa fb : S → Ou Bool} (hc : PTD kB X c fc) (ha : PTD kB X a fa) (hb : PTD kB X b fb) : PTD kB X (.IfExp c a b pos) (eIf fc fa fb) := fun Wx tk =>
  PT.imp (pt_ifExp (hc Wx tk) (ha Wx tk) (hb Wx tk)) fun t H Q ⟨W, s, o, R, q⟩ => ⟨W, s, o, R, Po.bind q fun x y s1 W1 H1 st ln R1 rx q1 => by
    cases (show x = y from rx)
    cases x with
    | true => rw [if_pos rfl]; exact ⟨W1, s1, o.le st.le, R1, q1⟩
    | false => rw [if_neg Bool.false_ne_true]; exact ⟨W1, s1, o.le st.le, R1, q1⟩⟩
/-- xs[::-1] of a list -/
def eRev (fa : S → Ou Ar) : S → Ou (D × Bool) := fun s => (fa s).bind fun x s1 => match s1.look x with
  | some (.nd .lst ds) => .ok (.nd .lst ds.reverse, true) s1
  | _ => .bad
theorem PD.rev {fa : S → Ou Ar} {k : Nat} {p1 p2 p3 : Pos} (ha : PD kA X e fa) : PD kV X (.Subscript e (.Slice none none (some (.UnaryOp .USub (.Constant (.int 1) k p1) p2)) p3) pos) (eRev fa) := fun Wx tk =>
  PE.imp (pe_revL (ha Wx tk)) fun t H Q ⟨W, s, o, R, q⟩ => ⟨W, s, o, R, Po.bind q fun x v s1 W1 H1 st ln R1 rx q1 => by
    split at q1
    · rename_i ds ed
      obtain ⟨a, xs, rfl, hH, rs⟩ := (R1.look rx ed).lst R1.hr.same
      exact ⟨a, xs, rfl, SqL.of hH, fun p hp => (Po.aft R1 q1).lst R1.hr.same hp ⟨_, rfl, rs.reverse⟩⟩
    · exact False.elim q1⟩
@[simp] theorem eRev_ap {r : List Sl} {h : List D} (fa : S → Ou Ar) : eRev fa ⟨r, h⟩ = ((fa ⟨r, h⟩).bind fun x s1 => match s1.look x with
  | some (.nd .lst ds) => .ok (.nd .lst ds.reverse, true) s1
  | _ => .bad) := id rfl
/-! text * int, the int 0 or 1 -/
theorem op_mulS : OpR X (binaryOp .Mult) (fun x y H Q => ∃ (a : Str) (k : Int), x = .str a ∧ y = .int k ∧ (k = 0 ∨ k = 1) ∧ Q (.str (if k = 0 then Str.empty else a)) H) := by
  intro pins s σ H x y v u Q I rx ry h
  obtain ⟨a, k, rfl, rfl, hk, q⟩ := h
  obtain ⟨t, rfl⟩ := rx
  obtain ⟨t', rfl⟩ := ry
  rcases hk with rfl | rfl
  · exact P.mul_str_none (by decide) (by decide) ⟨.str Str.empty, H, I.tok _, ⟨_, rfl⟩, q⟩
  · refine P.mul_str (by decide) (fun _ z => absurd z (by simp)) (fun _ z => absurd z (by simp)) ?_
    rw [if_neg (by decide), if_pos (by simp)]
    exact ⟨.str a, H, I, ⟨_, rfl⟩, q⟩
def mulSG (x y : D) : Option (D × Bool) := match x, y with
  | .str a, .int k => if k = 0 then some (.str Str.empty, false) else if k = 1 then some (.str a, false) else none
  | _, _ => none
theorem pr_mulS {K : PySem.W.Frag} : Prim2 K (fun x y H Q => ∃ (a : Str) (k : Int), x = .str a ∧ y = .int k ∧ (k = 0 ∨ k = 1) ∧ Q (.str (if k = 0 then Str.empty else a)) H) mulSG := fun W H x y v w Q a hK sm rx ry e af => by
  unfold mulSG at e
  split at e
  · rename_i z k
    split at e
    · rename_i hk
      cases e
      exact ⟨z, k, rx.str, ry.int, .inl hk, by rw [if_pos hk]; exact af.flat sm rfl⟩
    · rename_i hk
      split at e
      · rename_i hk1
        cases e
        exact ⟨z, k, rx.str, ry.int, .inr hk1, by rw [if_neg hk]; exact af.flat sm rfl⟩
      · cases e
  · cases e
theorem oMulS {a b : Expr} {fa fb : S → Ou Ar} (ha : PD kA X a fa) (hb : PD kA X b fb) : PD kV X (.BinOp a .Mult b pos) (eOp2 mulSG fa fb) := PD.bin op_mulS pr_mulS ha hb
@[simp] theorem mulSG_0 (a : Str) : mulSG (.str a) (.int 0) = some (.str Str.empty, false) := id rfl
@[simp] theorem mulSG_1 (a : Str) : mulSG (.str a) (.int 1) = some (.str a, false) := id rfl
/-! {written texts: written texts}[e] -/
def litAt : List (Str × Str) → Str → Option Str
  | [], _ => none
  | (y, z) :: t, x => if y == x then some z else litAt t x
def eLit (t : List (Str × Str)) (fi : S → Ou D) : S → Ou (D × Bool) := fun s => (fi s).bind fun d s1 => match d with
  | .str x => match litAt t x with
    | some z => .ok (.str z, false) s1
    | none => .bad
  | _ => .bad
def litTs (t : List (Str × Str)) : List (TE × TE) := t.map fun p => (tC (.str p.1), tC (.str p.2))
theorem lit_pairs {σ : St} {H : Hp} {Q : List (V × V) → Hp → Prop} : ∀ {t : List (Str × Str)}, Q (t.map fun p => (V.str p.1, V.str p.2)) H → tPairs (litTs t) σ H Q
  | [], h => h
  | p :: t, h => by
    show tPairs (litTs t) σ H _
    exact lit_pairs (t := t) h
theorem lit_val {t : List (Str × Str)} (hn : (t.map (·.1)).Nodup) {x z : Str} (h : litAt t x = some z) : valV (mergeK [] (t.map fun p => ((Sum.inr p.1 : Key), V.str p.2))) (.inr x) = some (.str z) := by
  have key : ∀ (t : List (Str × Str)) (acc : List (Key × V)), (t.map (·.1)).Nodup → (∀ p ∈ t, valV acc (.inr p.1) = none) → mergeK acc (t.map fun p => ((Sum.inr p.1 : Key), V.str p.2)) = acc ++ t.map fun p => ((Sum.inr p.1 : Key), V.str p.2) := by
    intro t
    induction t with
    | nil => intro acc _ _; simp [mergeK]
    | cons p t ih =>
      intro acc hn ha
      rw [List.map_cons] at hn
      obtain ⟨h1, h2⟩ := List.nodup_cons.mp hn
      have e : putK acc (Sum.inr p.1 : Key) (V.str p.2) = acc ++ [(Sum.inr p.1, V.str p.2)] := putK_new _ (ha p (List.mem_cons_self ..))
      show mergeK (putK acc (Sum.inr p.1 : Key) (V.str p.2)) (t.map fun p => ((Sum.inr p.1 : Key), V.str p.2)) = _
      rw [e, ih _ h2 fun q hq => ?_, List.map_cons, List.append_assoc]
      · rfl
      · rw [valV_snoc _ _ _ _ (ha p (List.mem_cons_self ..)), if_neg, ha q (List.mem_cons_of_mem _ hq)]
        intro z
        have z : q.1 = p.1 := by simpa using z
        exact h1 (z ▸ List.mem_map_of_mem hq)
  rw [key t [] hn fun _ _ => rfl, List.nil_append]
  clear key
  induction t with
  | nil => cases h
  | cons p t ih =>
    rw [List.map_cons]
    unfold litAt at h
    by_cases e : p.1 = x
    · rw [show (p.1 == x) = true from beq_iff_eq.mpr e] at h
      rw [valV_pos (by rw [e])]
      cases h
      rfl
    · rw [show (p.1 == x) = false from beq_eq_false_iff_ne.mpr e] at h
      rw [valV_neg (fun z => e (by simpa using z))]
      exact ih (List.nodup_cons.mp hn).2 h
theorem PD.lit {keys : List (Option Expr)} {values : List Expr} {dpos : Pos} {t : List (Str × Str)} {fi : S → Ou D} (hu : X.A.units + 64 < cLine) (hp : PPs X dpos keys values (litTs t)) (hall : keys.all (·.isSome) = true) (hl : keys.length = values.length) (h0 : keys ≠ []) (h15 : keys.length ≤ 15)
    (h15' : t.length ≤ 15) (hn : (t.map (·.1)).Nodup) (hi : PD kF X i fi) (hs : NoSl i) : PD kV X (.Subscript (.Dict keys values dpos) i pos) (eLit t fi) := fun Wx tk =>
  PE.imp (pe_dget (by omega) (pe_disp hp hall hl h0 h15) (hi Wx tk) hs) fun σ H Q ⟨W, s, o, R, q⟩ => by
    intro p hpn
    refine lit_pairs ⟨upd_same, t.map fun p => ((Sum.inr p.1 : Key), V.str p.2), by rw [List.map_map]; rfl, by rw [List.length_map]; exact h15', ?_⟩
    have e2 : upd (upd H p (.dK [])) p (.dK (mergeK [] (t.map fun p => ((Sum.inr p.1 : Key), V.str p.2)))) = upd H p (.dK (mergeK [] (t.map fun p => ((Sum.inr p.1 : Key), V.str p.2)))) := by
      funext b
      unfold upd
      split <;> rfl
    rw [e2]
    have g : Grow W H W (upd H p (.dK (mergeK [] (t.map fun p => ((Sum.inr p.1 : Key), V.str p.2))))) := Grow.new R.hr.same hpn
    have R1 := g.rel R
    have hio : p ∉ W.io := fun z => by
      obtain ⟨n, hn⟩ := List.getElem?_of_mem z
      have hl : n < s.h.length := by rw [← R.hr.len]; exact (List.getElem?_eq_some_iff.mp hn).1
      obtain ⟨b, u, h1, _, h3, _⟩ := R.hr.at_ n _ (List.getElem?_eq_getElem hl)
      rw [hn] at h1
      cases h1
      rw [hpn] at h3
      cases h3
    have hO : ¬ Ow s σ p := fun ⟨j, ⟨lk, d', z1⟩, z2⟩ => by
      obtain ⟨b, u, h1, _, _, h4, _⟩ := R.own j lk d' z1
      rw [z2] at h1
      cases h1
      rw [hpn] at h4
      cases h4
    refine ⟨W, s, o, R1, ?_⟩
    unfold eLit at q
    have q' := Po.from (W1 := W) (s1 := s) (H1 := upd H p (.dK (mergeK [] (t.map fun p => ((Sum.inr p.1 : Key), V.str p.2))))) g.step .refl q
    refine Po.bind q' fun d v s1 W1 H1 st ln R2 rx q1 => ?_
    split at q1
    · rename_i x
      split at q1
      · rename_i z ez
        have ev : v = .str x := rx
        refine ⟨p, .str z, rfl, ?_, q1 (.str z) W1 H1 .refl .refl R2 (kV_F rfl)⟩
        have hk := st.keep p _ upd_same hio hO
        rw [ev]
        exact .inl ⟨_, .inr x, .inl hk, rfl, (lit_val hn ez).symm⟩
      · exact False.elim q1
    · exact False.elim q1
@[simp] theorem eLit_ap {r : List Sl} {h : List D} (t : List (Str × Str)) (fi : S → Ou D) : eLit t fi ⟨r, h⟩ = ((fi ⟨r, h⟩).bind fun d s1 => match d with
  | .str x => match litAt t x with
    | some z => .ok (.str z, false) s1
    | none => .bad
  | _ => .bad) := id rfl
@[simp] theorem slcG_str (z : Str) (lo hi : Option Int) : slcG (.str z) lo hi = if z.length ≤ sizeLine then some (.str (cutS z lo hi), false) else none := id rfl
end
end TD

end
section
set_option maxRecDepth 100000
set_option maxHeartbeats 4000000
namespace TD.K75
open PySem L2 PyProof.Rows
/-! ### the text by places -/
abbrev top (i : Nat) : Stmt := PySem.Challenge.pw_waysheld_k75_edits_read_or_refused.main.body.getD i (.Pass ⟨0, 0, 0, 0⟩)
abbrev st_is_within : Stmt := top 11
abbrev st_is_name : Stmt := top 12
abbrev st_is_place : Stmt := top 13
abbrev st_is_road : Stmt := top 14
abbrev st_is_stamp : Stmt := top 19
abbrev st_is_what : Stmt := top 20
abbrev st_is_edit : Stmt := top 21
abbrev st_need_edits : Stmt := top 22
abbrev st_is_figures : Stmt := top 27
abbrev st_rows_of : Stmt := top 28
abbrev st_told_by : Stmt := top 29
abbrev st_row_text : Stmt := top 30
abbrev st_edit_told : Stmt := top 31
abbrev st_edits_text : Stmt := top 32
abbrev st_read_edits : Stmt := top 33
abbrev st__law_mixed : Stmt := top 35
abbrev st__law_next : Stmt := top 36
abbrev st__law_names : Stmt := top 37
abbrev st__law_pick : Stmt := top 38
abbrev st__law_places : Stmt := top 39
abbrev st__law_what : Stmt := top 40
abbrev st__law_edits : Stmt := top 41
abbrev st__law_figures : Stmt := top 43
abbrev st__law_name_is : Stmt := top 44
abbrev st__law_words : Stmt := top 45
abbrev st__law_row_spoilt : Stmt := top 46
abbrev st__law_spoilt : Stmt := top 47
abbrev st__law_text : Stmt := top 48
abbrev st__law_is_row : Stmt := top 49
abbrev st__law_due : Stmt := top 50
abbrev st__law_right : Stmt := top 51
abbrev st__law_is_far : Stmt := top 52
abbrev st_law : Stmt := top 53
def cs_row : List Str := ["NoText"]
def xs_BadEdit : List (Str × Bool) := [("WayError", false), ("NoMap", false), ("BadEdit", true), ("NoTile", false), ("NoText", false)]
def xs_NoMap : List (Str × Bool) := [("WayError", false), ("NoMap", true), ("BadEdit", false), ("NoTile", false), ("NoText", false)]
def xs_NoText : List (Str × Bool) := [("WayError", false), ("NoMap", false), ("BadEdit", false), ("NoTile", false), ("NoText", true)]
def xs_NoTile : List (Str × Bool) := [("WayError", false), ("NoMap", false), ("BadEdit", false), ("NoTile", true), ("NoText", false)]
def xs_ValueError : List (Str × Bool) := [("WayError", true), ("NoMap", true), ("BadEdit", true), ("NoTile", true), ("NoText", true)]
def tb_FORMS : List (Str × D) := [("road", .str "nddd"), ("drop", .str "n"), ("ban", .str "nn"), ("free", .str "nn"), ("undo", .str "dn")]
def tb_LENGTHS : List (Str × D) := [("road", .int 5), ("drop", .int 2), ("ban", .int 3), ("free", .int 3), ("undo", .int 3)]
def xs_WayError : List (Str × Bool) := [("WayError", true), ("NoMap", true), ("BadEdit", true), ("NoTile", true), ("NoText", true)]
/-! ### what the top says -/
structure Txt (w : World) (K : PySem.W.Frag) (mg : Str → Option Value) : Prop where
  fl_row : ∀ c, cs_row.contains c = true → ∀ C, mg c = some (.ref C) → XfC K C ∧ PySem.W.findIn K (.ref C) "row" = some none
  is_BadEdit : ∃ C, mg "BadEdit" = some (.ref C) ∧ IsF K mg (.ref C) xs_BadEdit
  is_NoMap : ∃ C, mg "NoMap" = some (.ref C) ∧ IsF K mg (.ref C) xs_NoMap
  is_NoText : ∃ C, mg "NoText" = some (.ref C) ∧ IsF K mg (.ref C) xs_NoText
  is_NoTile : ∃ C, mg "NoTile" = some (.ref C) ∧ IsF K mg (.ref C) xs_NoTile
  is_ValueError : IsF K mg (.type "ValueError") xs_ValueError
  c_FIGURES : ∃ t, mg "FIGURES" = some (.str "0123456789" t)
  t_FORMS : ∃ d, mg "FORMS" = some (.ref d) ∧ KTab K w d tb_FORMS
  c_GREATEST_PLACE : ∃ t, mg "GREATEST_PLACE" = some (.int 999 t)
  t_LENGTHS : ∃ d, mg "LENGTHS" = some (.ref d) ∧ KTab K w d tb_LENGTHS
  c_LONGEST : ∃ t, mg "LONGEST" = some (.int 8 t)
  c_MOST_COST_edits : ∃ t, mg "MOST_COST_edits" = some (.int 1000000 t)
  c_MOST_COST_maps : ∃ t, mg "MOST_COST_maps" = some (.int 1000000000 t)
  c_MOST_STAMP : ∃ t, mg "MOST_STAMP" = some (.int 1000000 t)
  c_SIGNS : ∃ t, mg "SIGNS" = some (.str "abcdefghijklmnopqrstuvwxyz0123456789" t)
  ex_WayError : ∃ C, mg "WayError" = some (.ref C) ∧ ∀ c b, xs_WayError.lookup c = some b → ∀ Ce, mg c = some (.ref Ce) → PySem.W.exmOne K (.ref Ce) (.ref C) = some b
section
variable {P : Program} {w : World} {K : PySem.W.Frag} {mg : Str → Option Value} {base : Heap}
/-! is_within: names 0:thing 1:least 2:most -/
noncomputable def B_is_within : S → OutS :=
  (sRet (eAnd (mT (eIsi ["int"] (aVar 0))) (eAnd (mT (eNot (mT (eIsi ["bool"] (aVar 0))))) (eChain leG leG (aVar 1) (aVar 0) (aVar 2)))))
noncomputable def F_is_within : List D → List D → OutF := hide (bodyF 3 B_is_within)
theorem E_is_within (ds h : List D) : F_is_within ds h = (B_is_within ⟨ds.map .fz ++ List.replicate (3 - ds.length) .un, h⟩).res := by rw [show F_is_within = bodyF 3 B_is_within from hide_eq _, bodyF_ap]
theorem sc_is_within : FnScope ["thing", "least", "most"] ["thing", "least", "most"] (defScope st_is_within) := ⟨rfl, rfl, rfl, by decide +kernel, rfl, by decide +kernel, by decide +kernel⟩
theorem bp_is_within {f : Addr} {fd : FuncData} (F : Dfn K mg "is_within" "is_within" st_is_within [] f fd) : BdP K fd ["thing", "least", "most"] 3 (fun ds => ds) := BdP.all F.fn fun _ _ _ _ _ _ us hl => match us, hl with | [_, _, _], _ => rfl
theorem fn_is_within {f : Addr} {fd : FuncData} (d : Dfn K mg "is_within" "is_within" st_is_within [] f fd) (B : Bt mg) (T : Txt w K mg)  : FnG P w K mg base 1 f fd ["thing", "least", "most"] (spD K mg (["thing", "least", "most"] : List Str).length F_is_within) := by
  have nd := (sc_is_within).nd
  have h1 : ∀ (cdv : Value) (A : Around) (outer : List Env) (s : Shared) (H : Hp) (E : XK), A.guards = some [] → Room 0 (A.deeper (envOfC "is_within" (defScope st_is_within) s.heap.objs.size f cdv)) → PSsD (cxOf (L2.CX P w) P w K mg base ["thing", "least", "most"] "is_within" (defScope st_is_within) f cdv A outer s H E) (defBody st_is_within) B_is_within := by
    intro cdv A outer s H E hgd hr
    have hu : (A.deeper (envOfC "is_within" (defScope st_is_within) s.heap.objs.size f cdv)).units + 64 < cLine := by have := hr.un; omega
    exact (PSsD.one (PSD.ret (PD.and (cIsi B B.int bb_int (nA 0)) (PD.and (PD.not (cIsi B B.bool bb_bool (nA 0))) (PD.and1 (oLeLe (nA 1) (nA 0) (nA 2)))))))
  have h2 := Dfn.ok d sc_is_within h1
  have h3 : FnG P w K mg base 1 f fd ["thing", "least", "most"] (spD K mg 3 (bodyF 3 B_is_within)) := h2
  have h4 : FnG P w K mg base 1 f fd ["thing", "least", "most"] (spD K mg 3 F_is_within) := by rw [show F_is_within = bodyF 3 B_is_within from hide_eq _]; exact h3
  exact h4
theorem ok_is_within (hd : ∃ f fd, Dfn K mg "is_within" "is_within" st_is_within [] f fd) (B : Bt mg) (T : Txt w K mg)  : Has P w K mg base 1 "is_within" "is_within" st_is_within [] ["thing", "least", "most"] F_is_within := by
  obtain ⟨f, fd, d⟩ := hd
  exact ⟨⟨f, fd, d, fn_is_within d B T ⟩⟩
/-! is_name: names 0:thing 1:sign -/
noncomputable def L_is_name_1 : S → Ou D := (mF (eOp2 (inG false) (aVar 1) (mA (eC (.str "abcdefghijklmnopqrstuvwxyz0123456789")))))
theorem A_is_name_1 {r : List Sl} {h : List D} : L_is_name_1 ⟨r, h⟩ = (mF (eOp2 (inG false) (aVar 1) (mA (eC (.str "abcdefghijklmnopqrstuvwxyz0123456789"))))) ⟨r, h⟩ := rfl
noncomputable def B_is_name : S → OutS :=
  (sRet (eAnd (mT (eIsi ["str"] (aVar 0))) (eAnd (mT (eChain leG leG (mA (eC (.int 1))) (mA (mF (eOpN lenG (aCons (aVar 0) aNil)))) (mA (eC (.int 8))))) (eOpN allG (aCons (mA (mF (eLc (iStr (aVar 0)) [1] (gtName 1) (eC true) L_is_name_1))) aNil)))))
noncomputable def F_is_name : List D → List D → OutF := hide (bodyF 2 B_is_name)
theorem E_is_name (ds h : List D) : F_is_name ds h = (B_is_name ⟨ds.map .fz ++ List.replicate (2 - ds.length) .un, h⟩).res := by rw [show F_is_name = bodyF 2 B_is_name from hide_eq _, bodyF_ap]
theorem sc_is_name : FnScope ["thing", "sign"] ["thing"] (defScope st_is_name) := ⟨rfl, rfl, rfl, by decide +kernel, rfl, by decide +kernel, by decide +kernel⟩
theorem bp_is_name {f : Addr} {fd : FuncData} (F : Dfn K mg "is_name" "is_name" st_is_name [] f fd) : BdP K fd ["thing"] 1 (fun ds => ds) := BdP.all F.fn fun _ _ _ _ _ _ us hl => match us, hl with | [_], _ => rfl
theorem fn_is_name {f : Addr} {fd : FuncData} (d : Dfn K mg "is_name" "is_name" st_is_name [] f fd) (B : Bt mg) (T : Txt w K mg)  : FnG P w K mg base 1 f fd ["thing"] (spD K mg (["thing"] : List Str).length F_is_name) := by
  obtain ⟨t_LONGEST, h_LONGEST⟩ := T.c_LONGEST
  obtain ⟨t_SIGNS, h_SIGNS⟩ := T.c_SIGNS
  have nd := (sc_is_name).nd
  have h1 : ∀ (cdv : Value) (A : Around) (outer : List Env) (s : Shared) (H : Hp) (E : XK), A.guards = some [] → Room 0 (A.deeper (envOfC "is_name" (defScope st_is_name) s.heap.objs.size f cdv)) → PSsD (cxOf (L2.CX P w) P w K mg base ["thing", "sign"] "is_name" (defScope st_is_name) f cdv A outer s H E) (defBody st_is_name) B_is_name := by
    intro cdv A outer s H E hgd hr
    have hu : (A.deeper (envOfC "is_name" (defScope st_is_name) s.heap.objs.size f cdv)).units + 64 < cLine := by have := hr.un; omega
    exact (PSsD.one (PSD.ret (PD.and (cIsi B B.str bb_str (nA 0)) (PD.and (oLeLe (fA PD.int) (fA (vF (cLen B (aC (nA 0) a0)))) (fA (gInt h_LONGEST))) (PD.and1 (cAll B rfl (aC (fA (vF (lcW (g := (gName 1)) [("sign", 1)] rfl nd (iStrW (nA 0)) (fun _ _ _ _ _ => (gN 1 nd)) (fun _ _ _ _ _ => PTsD.nil) (fun _ _ _ _ _ => (vF (oIn (nA 1) (fA (gStr h_SIGNS)))))))) a0)))))))
  have h2 := Dfn.ok d sc_is_name h1
  have h3 : FnG P w K mg base 1 f fd ["thing"] (spD K mg 1 (bodyF 2 B_is_name)) := h2
  have h4 : FnG P w K mg base 1 f fd ["thing"] (spD K mg 1 F_is_name) := by rw [show F_is_name = bodyF 2 B_is_name from hide_eq _]; exact h3
  exact h4
theorem ok_is_name (hd : ∃ f fd, Dfn K mg "is_name" "is_name" st_is_name [] f fd) (B : Bt mg) (T : Txt w K mg)  : Has P w K mg base 1 "is_name" "is_name" st_is_name [] ["thing"] F_is_name := by
  obtain ⟨f, fd, d⟩ := hd
  exact ⟨⟨f, fd, d, fn_is_name d B T ⟩⟩
/-! is_place: names 0:thing -/
noncomputable def B_is_place : S → OutS :=
  (sRet (eCall (fun ds h => F_is_within ds h) (fCons (eVar 0) (fCons (eC (.int 0)) (fCons (eC (.int 999)) fNil)))))
noncomputable def F_is_place : List D → List D → OutF := hide (bodyF 1 B_is_place)
theorem E_is_place (ds h : List D) : F_is_place ds h = (B_is_place ⟨ds.map .fz ++ List.replicate (1 - ds.length) .un, h⟩).res := by rw [show F_is_place = bodyF 1 B_is_place from hide_eq _, bodyF_ap]
theorem sc_is_place : FnScope ["thing"] ["thing"] (defScope st_is_place) := ⟨rfl, rfl, rfl, by decide +kernel, rfl, by decide +kernel, by decide +kernel⟩
theorem bp_is_place {f : Addr} {fd : FuncData} (F : Dfn K mg "is_place" "is_place" st_is_place [] f fd) : BdP K fd ["thing"] 1 (fun ds => ds) := BdP.all F.fn fun _ _ _ _ _ _ us hl => match us, hl with | [_], _ => rfl
theorem fn_is_place {f : Addr} {fd : FuncData} (d : Dfn K mg "is_place" "is_place" st_is_place [] f fd) (B : Bt mg) (T : Txt w K mg) (c_is_within : Has P w K mg base 1 "is_within" "is_within" st_is_within [] ["thing", "least", "most"] F_is_within) : FnG P w K mg base 2 f fd ["thing"] (spD K mg (["thing"] : List Str).length F_is_place) := by
  obtain ⟨t_GREATEST_PLACE, h_GREATEST_PLACE⟩ := T.c_GREATEST_PLACE
  have nd := (sc_is_place).nd
  have h1 : ∀ (cdv : Value) (A : Around) (outer : List Env) (s : Shared) (H : Hp) (E : XK), A.guards = some [] → Room 1 (A.deeper (envOfC "is_place" (defScope st_is_place) s.heap.objs.size f cdv)) → PSsD (cxOf (L2.CX P w) P w K mg base ["thing"] "is_place" (defScope st_is_place) f cdv A outer s H E) (defBody st_is_place) B_is_place := by
    intro cdv A outer s H E hgd hr
    have hu : (A.deeper (envOfC "is_place" (defScope st_is_place) s.heap.objs.size f cdv)).units + 64 < cLine := by have := hr.un; omega
    exact (PSsD.one (PSD.ret (Has.call c_is_within hgd hr (fun _ _ => bp_is_within) (fC (nF 0) (fC PD.int (fC (gInt h_GREATEST_PLACE) f0))))))
  have h2 := Dfn.ok d sc_is_place h1
  have h3 : FnG P w K mg base 2 f fd ["thing"] (spD K mg 1 (bodyF 1 B_is_place)) := h2
  have h4 : FnG P w K mg base 2 f fd ["thing"] (spD K mg 1 F_is_place) := by rw [show F_is_place = bodyF 1 B_is_place from hide_eq _]; exact h3
  exact h4
theorem ok_is_place (hd : ∃ f fd, Dfn K mg "is_place" "is_place" st_is_place [] f fd) (B : Bt mg) (T : Txt w K mg) (c_is_within : Has P w K mg base 1 "is_within" "is_within" st_is_within [] ["thing", "least", "most"] F_is_within) : Has P w K mg base 2 "is_place" "is_place" st_is_place [] ["thing"] F_is_place := by
  obtain ⟨f, fd, d⟩ := hd
  exact ⟨⟨f, fd, d, fn_is_place d B T c_is_within⟩⟩
/-! is_road: names 0:thing 1:begin 2:end 3:cost -/
noncomputable def B_is_road : S → OutS :=
  (sSeq (sIf (tOr (tNot (mT (eIsi ["tuple"] (aVar 0)))) (mT (eOp2 neG (mA (mF (eOpN lenG (aCons (aVar 0) aNil)))) (mA (eC (.int 3))))))
  (sRet (mV (eC (.bl false))))
  sNil)
  (sSeq (sUnp (gtTup 3 (gtCons (gtName 1) (gtCons (gtName 2) (gtCons (gtName 3) gtNil)))) (eVar 0))
  (sRet (eAnd (mT (eCall (fun ds h => F_is_place ds h) (fCons (eVar 1) fNil))) (eAnd (mT (eCall (fun ds h => F_is_place ds h) (fCons (eVar 2) fNil))) (eAnd (mT (eOp2 neG (aVar 1) (aVar 2))) (eCall (fun ds h => F_is_within ds h) (fCons (eVar 3) (fCons (eC (.int 1)) (fCons (eC (.int 1000000000)) fNil))))))))))
noncomputable def F_is_road : List D → List D → OutF := hide (bodyF 4 B_is_road)
theorem E_is_road (ds h : List D) : F_is_road ds h = (B_is_road ⟨ds.map .fz ++ List.replicate (4 - ds.length) .un, h⟩).res := by rw [show F_is_road = bodyF 4 B_is_road from hide_eq _, bodyF_ap]
theorem sc_is_road : FnScope ["thing", "begin", "end", "cost"] ["thing"] (defScope st_is_road) := ⟨rfl, rfl, rfl, by decide +kernel, rfl, by decide +kernel, by decide +kernel⟩
theorem bp_is_road {f : Addr} {fd : FuncData} (F : Dfn K mg "is_road" "is_road" st_is_road [] f fd) : BdP K fd ["thing"] 1 (fun ds => ds) := BdP.all F.fn fun _ _ _ _ _ _ us hl => match us, hl with | [_], _ => rfl
theorem fn_is_road {f : Addr} {fd : FuncData} (d : Dfn K mg "is_road" "is_road" st_is_road [] f fd) (B : Bt mg) (T : Txt w K mg) (c_is_within : Has P w K mg base 1 "is_within" "is_within" st_is_within [] ["thing", "least", "most"] F_is_within) (c_is_place : Has P w K mg base 2 "is_place" "is_place" st_is_place [] ["thing"] F_is_place) : FnG P w K mg base 3 f fd ["thing"] (spD K mg (["thing"] : List Str).length F_is_road) := by
  obtain ⟨t_MOST_COST_maps, h_MOST_COST_maps⟩ := T.c_MOST_COST_maps
  have nd := (sc_is_road).nd
  have h1 : ∀ (cdv : Value) (A : Around) (outer : List Env) (s : Shared) (H : Hp) (E : XK), A.guards = some [] → Room 2 (A.deeper (envOfC "is_road" (defScope st_is_road) s.heap.objs.size f cdv)) → PSsD (cxOf (L2.CX P w) P w K mg base ["thing", "begin", "end", "cost"] "is_road" (defScope st_is_road) f cdv A outer s H E) (defBody st_is_road) B_is_road := by
    intro cdv A outer s H E hgd hr
    have hu : (A.deeper (envOfC "is_road" (defScope st_is_road) s.heap.objs.size f cdv)).units + 64 < cLine := by have := hr.un; omega
    exact (PSsD.cons (PSD.ite (PTD.of (PWD.or (PTD.not (tVal (cIsi B B.tuple bb_tuple (nA 0)))) (PWD.or1 (tNe hu (fA (vF (cLen B (aC (nA 0) a0)))) (fA PD.int)))))
  (PSsD.one (PSD.ret (fV PD.bl)))
  PSsD.nil)
  (PSsD.cons (sUnpW (nF 0) (gT rfl (gC (gN 1 nd) (gC (gN 2 nd) (gC (gN 3 nd) PGsD.nil)))))
  (PSsD.one (PSD.ret (PD.and (Has.call c_is_place hgd hr (fun _ _ => bp_is_place) (fC (nF 1) f0)) (PD.and (Has.call c_is_place hgd hr (fun _ _ => bp_is_place) (fC (nF 2) f0)) (PD.and (oNe hu (nA 1) (nA 2)) (PD.and1 (Has.call c_is_within hgd hr (fun _ _ => bp_is_within) (fC (nF 3) (fC PD.int (fC (gInt h_MOST_COST_maps) f0))))))))))))
  have h2 := Dfn.ok d sc_is_road h1
  have h3 : FnG P w K mg base 3 f fd ["thing"] (spD K mg 1 (bodyF 4 B_is_road)) := h2
  have h4 : FnG P w K mg base 3 f fd ["thing"] (spD K mg 1 F_is_road) := by rw [show F_is_road = bodyF 4 B_is_road from hide_eq _]; exact h3
  exact h4
theorem ok_is_road (hd : ∃ f fd, Dfn K mg "is_road" "is_road" st_is_road [] f fd) (B : Bt mg) (T : Txt w K mg) (c_is_within : Has P w K mg base 1 "is_within" "is_within" st_is_within [] ["thing", "least", "most"] F_is_within) (c_is_place : Has P w K mg base 2 "is_place" "is_place" st_is_place [] ["thing"] F_is_place) : Has P w K mg base 3 "is_road" "is_road" st_is_road [] ["thing"] F_is_road := by
  obtain ⟨f, fd, d⟩ := hd
  exact ⟨⟨f, fd, d, fn_is_road d B T c_is_within c_is_place⟩⟩
/-! is_stamp: names 0:thing -/
noncomputable def B_is_stamp : S → OutS :=
  (sRet (eAnd (mT (eIsi ["int"] (aVar 0))) (eAnd (mT (eNot (mT (eIsi ["bool"] (aVar 0))))) (eChain leG leG (mA (eC (.int 0))) (aVar 0) (mA (eC (.int 1000000)))))))
noncomputable def F_is_stamp : List D → List D → OutF := hide (bodyF 1 B_is_stamp)
theorem E_is_stamp (ds h : List D) : F_is_stamp ds h = (B_is_stamp ⟨ds.map .fz ++ List.replicate (1 - ds.length) .un, h⟩).res := by rw [show F_is_stamp = bodyF 1 B_is_stamp from hide_eq _, bodyF_ap]
theorem sc_is_stamp : FnScope ["thing"] ["thing"] (defScope st_is_stamp) := ⟨rfl, rfl, rfl, by decide +kernel, rfl, by decide +kernel, by decide +kernel⟩
theorem bp_is_stamp {f : Addr} {fd : FuncData} (F : Dfn K mg "is_stamp" "is_stamp" st_is_stamp [] f fd) : BdP K fd ["thing"] 1 (fun ds => ds) := BdP.all F.fn fun _ _ _ _ _ _ us hl => match us, hl with | [_], _ => rfl
theorem fn_is_stamp {f : Addr} {fd : FuncData} (d : Dfn K mg "is_stamp" "is_stamp" st_is_stamp [] f fd) (B : Bt mg) (T : Txt w K mg)  : FnG P w K mg base 1 f fd ["thing"] (spD K mg (["thing"] : List Str).length F_is_stamp) := by
  obtain ⟨t_MOST_STAMP, h_MOST_STAMP⟩ := T.c_MOST_STAMP
  have nd := (sc_is_stamp).nd
  have h1 : ∀ (cdv : Value) (A : Around) (outer : List Env) (s : Shared) (H : Hp) (E : XK), A.guards = some [] → Room 0 (A.deeper (envOfC "is_stamp" (defScope st_is_stamp) s.heap.objs.size f cdv)) → PSsD (cxOf (L2.CX P w) P w K mg base ["thing"] "is_stamp" (defScope st_is_stamp) f cdv A outer s H E) (defBody st_is_stamp) B_is_stamp := by
    intro cdv A outer s H E hgd hr
    have hu : (A.deeper (envOfC "is_stamp" (defScope st_is_stamp) s.heap.objs.size f cdv)).units + 64 < cLine := by have := hr.un; omega
    exact (PSsD.one (PSD.ret (PD.and (cIsi B B.int bb_int (nA 0)) (PD.and (PD.not (cIsi B B.bool bb_bool (nA 0))) (PD.and1 (oLeLe (fA PD.int) (nA 0) (fA (gInt h_MOST_STAMP))))))))
  have h2 := Dfn.ok d sc_is_stamp h1
  have h3 : FnG P w K mg base 1 f fd ["thing"] (spD K mg 1 (bodyF 1 B_is_stamp)) := h2
  have h4 : FnG P w K mg base 1 f fd ["thing"] (spD K mg 1 F_is_stamp) := by rw [show F_is_stamp = bodyF 1 B_is_stamp from hide_eq _]; exact h3
  exact h4
theorem ok_is_stamp (hd : ∃ f fd, Dfn K mg "is_stamp" "is_stamp" st_is_stamp [] f fd) (B : Bt mg) (T : Txt w K mg)  : Has P w K mg base 1 "is_stamp" "is_stamp" st_is_stamp [] ["thing"] F_is_stamp := by
  obtain ⟨f, fd, d⟩ := hd
  exact ⟨⟨f, fd, d, fn_is_stamp d B T ⟩⟩
/-! is_what: names 0:thing 1:word 2:rest 3:one -/
noncomputable def L_is_what_1 : S → Ou D := (mF (eCall (fun ds h => F_is_name ds h) (fCons (eVar 3) fNil)))
theorem A_is_what_1 {r : List Sl} {h : List D} : L_is_what_1 ⟨r, h⟩ = (mF (eCall (fun ds h => F_is_name ds h) (fCons (eVar 3) fNil))) ⟨r, h⟩ := rfl
noncomputable def B_is_what : S → OutS :=
  (sSeq (sIf (tOr (tNot (mT (eIsi ["tuple"] (aVar 0)))) (tOr (mT (eOp2 eqG (mA (mF (eOpN lenG (aCons (aVar 0) aNil)))) (mA (eC (.int 0))))) (tNot (mT (eIsi ["str"] (mA (mF (eOp2 ixG (aVar 0) (mA (eC (.int 0)))))))))))
  (sRet (mV (eC (.bl false))))
  sNil)
  (sSeq (sStar [1, 2] 1 (eVar 0))
  (sSeq (sIf (mT (eOp2 neG (mA (mF (ktGet tb_LENGTHS (fCons (eVar 1) fNil)))) (mA (mF (eOpN lenG (aCons (aVar 0) aNil))))))
  (sRet (mV (eC (.bl false))))
  sNil)
  (sSeq (sIf (mT (eOp2 eqG (aVar 1) (mA (eC (.str "road")))))
  (sRet (eAnd (mT (eCall (fun ds h => F_is_name ds h) (fCons (mF (eOp2 ixG (aVar 2) (mA (eC (.int 0))))) fNil))) (eAnd (mT (eCall (fun ds h => F_is_road ds h) (fCons (mF (eOpN tupleG (aCons (mA (mF (eSlc (aVar 2) (oInt (eC (.int 1))) (eC none)))) aNil))) fNil))) (eOp2 leG (mA (mF (eOp2 ixG (aVar 2) (mA (eC (.int 3)))))) (mA (eC (.int 1000000)))))))
  sNil)
  (sSeq (sIf (mT (eOp2 eqG (aVar 1) (mA (eC (.str "undo")))))
  (sRet (eAnd (mT (eCall (fun ds h => F_is_stamp ds h) (fCons (mF (eOp2 ixG (aVar 2) (mA (eC (.int 0))))) fNil))) (eCall (fun ds h => F_is_name ds h) (fCons (mF (eOp2 ixG (aVar 2) (mA (eC (.int 1))))) fNil))))
  sNil)
  (sRet (eOpN allG (aCons (mA (mF (eLc (iSeq (aVar 2)) [3] (gtName 3) (eC true) L_is_what_1))) aNil))))))))
noncomputable def F_is_what : List D → List D → OutF := hide (bodyF 4 B_is_what)
theorem E_is_what (ds h : List D) : F_is_what ds h = (B_is_what ⟨ds.map .fz ++ List.replicate (4 - ds.length) .un, h⟩).res := by rw [show F_is_what = bodyF 4 B_is_what from hide_eq _, bodyF_ap]
theorem sc_is_what : FnScope ["thing", "word", "rest", "one"] ["thing"] (defScope st_is_what) := ⟨rfl, rfl, rfl, by decide +kernel, rfl, by decide +kernel, by decide +kernel⟩
theorem bp_is_what {f : Addr} {fd : FuncData} (F : Dfn K mg "is_what" "is_what" st_is_what [] f fd) : BdP K fd ["thing"] 1 (fun ds => ds) := BdP.all F.fn fun _ _ _ _ _ _ us hl => match us, hl with | [_], _ => rfl
theorem fn_is_what {f : Addr} {fd : FuncData} (d : Dfn K mg "is_what" "is_what" st_is_what [] f fd) (B : Bt mg) (T : Txt w K mg) (c_is_name : Has P w K mg base 1 "is_name" "is_name" st_is_name [] ["thing"] F_is_name) (c_is_road : Has P w K mg base 3 "is_road" "is_road" st_is_road [] ["thing"] F_is_road) (c_is_stamp : Has P w K mg base 1 "is_stamp" "is_stamp" st_is_stamp [] ["thing"] F_is_stamp) : FnG P w K mg base 4 f fd ["thing"] (spD K mg (["thing"] : List Str).length F_is_what) := by
  obtain ⟨d_LENGTHS, m_LENGTHS, T_LENGTHS⟩ := T.t_LENGTHS
  obtain ⟨t_MOST_COST_edits, h_MOST_COST_edits⟩ := T.c_MOST_COST_edits
  have nd := (sc_is_what).nd
  have h1 : ∀ (cdv : Value) (A : Around) (outer : List Env) (s : Shared) (H : Hp) (E : XK), A.guards = some [] → Room 3 (A.deeper (envOfC "is_what" (defScope st_is_what) s.heap.objs.size f cdv)) → PSsD (cxOf (L2.CX P w) P w K mg base ["thing", "word", "rest", "one"] "is_what" (defScope st_is_what) f cdv A outer s H E) (defBody st_is_what) B_is_what := by
    intro cdv A outer s H E hgd hr
    have hu : (A.deeper (envOfC "is_what" (defScope st_is_what) s.heap.objs.size f cdv)).units + 64 < cLine := by have := hr.un; omega
    exact (PSsD.cons (PSD.ite (PTD.of (PWD.or (PTD.not (tVal (cIsi B B.tuple bb_tuple (nA 0)))) (PWD.or (tEq hu (fA (vF (cLen B (aC (nA 0) a0)))) (fA PD.int)) (PWD.or1 (PTD.not (tVal (cIsi B B.str bb_str (fA (vF (xIx (nA 0) (fA PD.int)))))))))))
  (PSsD.one (PSD.ret (fV PD.bl)))
  PSsD.nil)
  (PSsD.cons (sStarN (is := [1, 2]) 1 rfl (nF 0) (gsC (gNm 1 nd) (gsC (gNm 2 nd) gs0)) (.cons (.cons .nil)))
  (PSsD.cons (PSD.ite (tNe hu (fA (vF (tabGet T_LENGTHS m_LENGTHS (fC (nF 1) f0)))) (fA (vF (cLen B (aC (nA 0) a0)))))
  (PSsD.one (PSD.ret (fV PD.bl)))
  PSsD.nil)
  (PSsD.cons (PSD.ite (tEq hu (nA 1) (fA PD.str))
  (PSsD.one (PSD.ret (PD.and (Has.call c_is_name hgd hr (fun _ _ => bp_is_name) (fC (vF (xIx (nA 2) (fA PD.int))) f0)) (PD.and (Has.call c_is_road hgd hr (fun _ _ => bp_is_road) (fC (vF (cTuple B (aC (fA (vF (xSlc (nA 2) (slS PD.int) sl0))) a0))) f0)) (PD.and1 (oLe (fA (vF (xIx (nA 2) (fA PD.int)))) (fA (gInt h_MOST_COST_edits))))))))
  PSsD.nil)
  (PSsD.cons (PSD.ite (tEq hu (nA 1) (fA PD.str))
  (PSsD.one (PSD.ret (PD.and (Has.call c_is_stamp hgd hr (fun _ _ => bp_is_stamp) (fC (vF (xIx (nA 2) (fA PD.int))) f0)) (PD.and1 (Has.call c_is_name hgd hr (fun _ _ => bp_is_name) (fC (vF (xIx (nA 2) (fA PD.int))) f0))))))
  PSsD.nil)
  (PSsD.one (PSD.ret (cAll B rfl (aC (fA (vF (lcW (g := (gName 3)) [("one", 3)] rfl nd (iSeqW (nA 2)) (fun _ _ _ _ _ => (gN 3 nd)) (fun _ _ _ _ _ => PTsD.nil) (fun _ _ _ _ _ => (vF (Has.call c_is_name hgd hr (fun _ _ => bp_is_name) (fC (nF 3) f0))))))) a0)))))))))
  have h2 := Dfn.ok d sc_is_what h1
  have h3 : FnG P w K mg base 4 f fd ["thing"] (spD K mg 1 (bodyF 4 B_is_what)) := h2
  have h4 : FnG P w K mg base 4 f fd ["thing"] (spD K mg 1 F_is_what) := by rw [show F_is_what = bodyF 4 B_is_what from hide_eq _]; exact h3
  exact h4
theorem ok_is_what (hd : ∃ f fd, Dfn K mg "is_what" "is_what" st_is_what [] f fd) (B : Bt mg) (T : Txt w K mg) (c_is_name : Has P w K mg base 1 "is_name" "is_name" st_is_name [] ["thing"] F_is_name) (c_is_road : Has P w K mg base 3 "is_road" "is_road" st_is_road [] ["thing"] F_is_road) (c_is_stamp : Has P w K mg base 1 "is_stamp" "is_stamp" st_is_stamp [] ["thing"] F_is_stamp) : Has P w K mg base 4 "is_what" "is_what" st_is_what [] ["thing"] F_is_what := by
  obtain ⟨f, fd, d⟩ := hd
  exact ⟨⟨f, fd, d, fn_is_what d B T c_is_name c_is_road c_is_stamp⟩⟩
/-! is_edit: names 0:thing 1:stamp 2:hand 3:what -/
noncomputable def B_is_edit : S → OutS :=
  (sSeq (sIf (tOr (tNot (mT (eIsi ["tuple"] (aVar 0)))) (mT (eOp2 neG (mA (mF (eOpN lenG (aCons (aVar 0) aNil)))) (mA (eC (.int 3))))))
  (sRet (mV (eC (.bl false))))
  sNil)
  (sSeq (sUnp (gtTup 3 (gtCons (gtName 1) (gtCons (gtName 2) (gtCons (gtName 3) gtNil)))) (eVar 0))
  (sRet (eAnd (mT (eCall (fun ds h => F_is_stamp ds h) (fCons (eVar 1) fNil))) (eAnd (mT (eCall (fun ds h => F_is_name ds h) (fCons (eVar 2) fNil))) (eCall (fun ds h => F_is_what ds h) (fCons (eVar 3) fNil)))))))
noncomputable def F_is_edit : List D → List D → OutF := hide (bodyF 4 B_is_edit)
theorem E_is_edit (ds h : List D) : F_is_edit ds h = (B_is_edit ⟨ds.map .fz ++ List.replicate (4 - ds.length) .un, h⟩).res := by rw [show F_is_edit = bodyF 4 B_is_edit from hide_eq _, bodyF_ap]
theorem sc_is_edit : FnScope ["thing", "stamp", "hand", "what"] ["thing"] (defScope st_is_edit) := ⟨rfl, rfl, rfl, by decide +kernel, rfl, by decide +kernel, by decide +kernel⟩
theorem bp_is_edit {f : Addr} {fd : FuncData} (F : Dfn K mg "is_edit" "is_edit" st_is_edit [] f fd) : BdP K fd ["thing"] 1 (fun ds => ds) := BdP.all F.fn fun _ _ _ _ _ _ us hl => match us, hl with | [_], _ => rfl
theorem fn_is_edit {f : Addr} {fd : FuncData} (d : Dfn K mg "is_edit" "is_edit" st_is_edit [] f fd) (B : Bt mg) (T : Txt w K mg) (c_is_name : Has P w K mg base 1 "is_name" "is_name" st_is_name [] ["thing"] F_is_name) (c_is_stamp : Has P w K mg base 1 "is_stamp" "is_stamp" st_is_stamp [] ["thing"] F_is_stamp) (c_is_what : Has P w K mg base 4 "is_what" "is_what" st_is_what [] ["thing"] F_is_what) : FnG P w K mg base 5 f fd ["thing"] (spD K mg (["thing"] : List Str).length F_is_edit) := by
  have nd := (sc_is_edit).nd
  have h1 : ∀ (cdv : Value) (A : Around) (outer : List Env) (s : Shared) (H : Hp) (E : XK), A.guards = some [] → Room 4 (A.deeper (envOfC "is_edit" (defScope st_is_edit) s.heap.objs.size f cdv)) → PSsD (cxOf (L2.CX P w) P w K mg base ["thing", "stamp", "hand", "what"] "is_edit" (defScope st_is_edit) f cdv A outer s H E) (defBody st_is_edit) B_is_edit := by
    intro cdv A outer s H E hgd hr
    have hu : (A.deeper (envOfC "is_edit" (defScope st_is_edit) s.heap.objs.size f cdv)).units + 64 < cLine := by have := hr.un; omega
    exact (PSsD.cons (PSD.ite (PTD.of (PWD.or (PTD.not (tVal (cIsi B B.tuple bb_tuple (nA 0)))) (PWD.or1 (tNe hu (fA (vF (cLen B (aC (nA 0) a0)))) (fA PD.int)))))
  (PSsD.one (PSD.ret (fV PD.bl)))
  PSsD.nil)
  (PSsD.cons (sUnpW (nF 0) (gT rfl (gC (gN 1 nd) (gC (gN 2 nd) (gC (gN 3 nd) PGsD.nil)))))
  (PSsD.one (PSD.ret (PD.and (Has.call c_is_stamp hgd hr (fun _ _ => bp_is_stamp) (fC (nF 1) f0)) (PD.and (Has.call c_is_name hgd hr (fun _ _ => bp_is_name) (fC (nF 2) f0)) (PD.and1 (Has.call c_is_what hgd hr (fun _ _ => bp_is_what) (fC (nF 3) f0)))))))))
  have h2 := Dfn.ok d sc_is_edit h1
  have h3 : FnG P w K mg base 5 f fd ["thing"] (spD K mg 1 (bodyF 4 B_is_edit)) := h2
  have h4 : FnG P w K mg base 5 f fd ["thing"] (spD K mg 1 F_is_edit) := by rw [show F_is_edit = bodyF 4 B_is_edit from hide_eq _]; exact h3
  exact h4
theorem ok_is_edit (hd : ∃ f fd, Dfn K mg "is_edit" "is_edit" st_is_edit [] f fd) (B : Bt mg) (T : Txt w K mg) (c_is_name : Has P w K mg base 1 "is_name" "is_name" st_is_name [] ["thing"] F_is_name) (c_is_stamp : Has P w K mg base 1 "is_stamp" "is_stamp" st_is_stamp [] ["thing"] F_is_stamp) (c_is_what : Has P w K mg base 4 "is_what" "is_what" st_is_what [] ["thing"] F_is_what) : Has P w K mg base 5 "is_edit" "is_edit" st_is_edit [] ["thing"] F_is_edit := by
  obtain ⟨f, fd, d⟩ := hd
  exact ⟨⟨f, fd, d, fn_is_edit d B T c_is_name c_is_stamp c_is_what⟩⟩
/-! need_edits: names 0:edits 1:at 2:edit -/
noncomputable def L_need_edits_1 : S → OutS := (sIf (tNot (mT (eCall (fun ds h => F_is_edit ds h) (fCons (eVar 2) fNil))))
  (sRaise1 "BadEdit" "at" (eVar 1))
  sNil)
theorem A_need_edits_1 {r : List Sl} {h : List D} : L_need_edits_1 ⟨r, h⟩ = (sIf (tNot (mT (eCall (fun ds h => F_is_edit ds h) (fCons (eVar 2) fNil))))
  (sRaise1 "BadEdit" "at" (eVar 1))
  sNil) ⟨r, h⟩ := rfl
noncomputable def B_need_edits : S → OutS :=
  (sSeq (sIf (tNot (mT (eIsi ["list", "tuple"] (aVar 0))))
  (sRaise1 "BadEdit" "at" (eC (.int 0)))
  sNil)
  (sFor (iEnum (aCons (aVar 0) aNil)) (gtTup 2 (gtCons (gtName 1) (gtCons (gtName 2) gtNil))) L_need_edits_1))
noncomputable def F_need_edits : List D → List D → OutF := hide (bodyF 3 B_need_edits)
theorem E_need_edits (ds h : List D) : F_need_edits ds h = (B_need_edits ⟨ds.map .fz ++ List.replicate (3 - ds.length) .un, h⟩).res := by rw [show F_need_edits = bodyF 3 B_need_edits from hide_eq _, bodyF_ap]
theorem sc_need_edits : FnScope ["edits", "at", "edit"] ["edits"] (defScope st_need_edits) := ⟨rfl, rfl, rfl, by decide +kernel, rfl, by decide +kernel, by decide +kernel⟩
theorem bp_need_edits {f : Addr} {fd : FuncData} (F : Dfn K mg "need_edits" "need_edits" st_need_edits [] f fd) : BdP K fd ["edits"] 1 (fun ds => ds) := BdP.all F.fn fun _ _ _ _ _ _ us hl => match us, hl with | [_], _ => rfl
theorem fn_need_edits {f : Addr} {fd : FuncData} (d : Dfn K mg "need_edits" "need_edits" st_need_edits [] f fd) (B : Bt mg) (T : Txt w K mg) (c_is_edit : Has P w K mg base 5 "is_edit" "is_edit" st_is_edit [] ["thing"] F_is_edit) (z_BadEdit : Rz1 P w K mg base "BadEdit" "at") : FnG P w K mg base 6 f fd ["edits"] (spD K mg (["edits"] : List Str).length F_need_edits) := by
  have nd := (sc_need_edits).nd
  have h1 : ∀ (cdv : Value) (A : Around) (outer : List Env) (s : Shared) (H : Hp) (E : XK), A.guards = some [] → Room 5 (A.deeper (envOfC "need_edits" (defScope st_need_edits) s.heap.objs.size f cdv)) → PSsD (cxOf (L2.CX P w) P w K mg base ["edits", "at", "edit"] "need_edits" (defScope st_need_edits) f cdv A outer s H E) (defBody st_need_edits) B_need_edits := by
    intro cdv A outer s H E hgd hr
    have hu : (A.deeper (envOfC "need_edits" (defScope st_need_edits) s.heap.objs.size f cdv)).units + 64 < cLine := by have := hr.un; omega
    exact (PSsD.cons (PSD.ite (PTD.not (tVal (cIsi2 B B.list bb_list B.tuple bb_tuple (nA 0))))
  (PSsD.one (Rz1.raise z_BadEdit hr PD.int))
  PSsD.nil)
  (PSsD.one (sForN (passes_of rfl) rfl (iEnumW B (aC (nA 0) a0)) (gT rfl (gC (gN 1 nd) (gC (gN 2 nd) PGsD.nil)))
  (PSsD.one (PSD.ite (PTD.not (tVal (Has.call c_is_edit hgd hr (fun _ _ => bp_is_edit) (fC (nF 2) f0))))
  (PSsD.one (Rz1.raise z_BadEdit hr (nF 1)))
  PSsD.nil)))))
  have h2 := Dfn.ok d sc_need_edits h1
  have h3 : FnG P w K mg base 6 f fd ["edits"] (spD K mg 1 (bodyF 3 B_need_edits)) := h2
  have h4 : FnG P w K mg base 6 f fd ["edits"] (spD K mg 1 F_need_edits) := by rw [show F_need_edits = bodyF 3 B_need_edits from hide_eq _]; exact h3
  exact h4
theorem ok_need_edits (hd : ∃ f fd, Dfn K mg "need_edits" "need_edits" st_need_edits [] f fd) (B : Bt mg) (T : Txt w K mg) (c_is_edit : Has P w K mg base 5 "is_edit" "is_edit" st_is_edit [] ["thing"] F_is_edit) (z_BadEdit : Rz1 P w K mg base "BadEdit" "at") : Has P w K mg base 6 "need_edits" "need_edits" st_need_edits [] ["edits"] F_need_edits := by
  obtain ⟨f, fd, d⟩ := hd
  exact ⟨⟨f, fd, d, fn_need_edits d B T c_is_edit z_BadEdit⟩⟩
/-! is_figures: names 0:word 1:most 2:sign -/
noncomputable def L_is_figures_1 : S → Ou D := (mF (eOp2 (inG false) (aVar 2) (mA (eC (.str "0123456789")))))
theorem A_is_figures_1 {r : List Sl} {h : List D} : L_is_figures_1 ⟨r, h⟩ = (mF (eOp2 (inG false) (aVar 2) (mA (eC (.str "0123456789"))))) ⟨r, h⟩ := rfl
noncomputable def B_is_figures : S → OutS :=
  (sSeq (sIf (tOr (tNot (mT (eChain leG leG (mA (eC (.int 1))) (mA (mF (eOpN lenG (aCons (aVar 0) aNil)))) (aVar 1)))) (tNot (mT (eOpN allG (aCons (mA (mF (eLc (iStr (aVar 0)) [2] (gtName 2) (eC true) L_is_figures_1))) aNil)))))
  (sRet (mV (eC (.bl false))))
  sNil)
  (sRet (eOr (mT (eOp2 eqG (aVar 0) (mA (eC (.str "0"))))) (eOp2 neG (mA (mF (eOp2 ixG (aVar 0) (mA (eC (.int 0)))))) (mA (eC (.str "0")))))))
noncomputable def F_is_figures : List D → List D → OutF := hide (bodyF 3 B_is_figures)
theorem E_is_figures (ds h : List D) : F_is_figures ds h = (B_is_figures ⟨ds.map .fz ++ List.replicate (3 - ds.length) .un, h⟩).res := by rw [show F_is_figures = bodyF 3 B_is_figures from hide_eq _, bodyF_ap]
theorem sc_is_figures : FnScope ["word", "most", "sign"] ["word", "most"] (defScope st_is_figures) := ⟨rfl, rfl, rfl, by decide +kernel, rfl, by decide +kernel, by decide +kernel⟩
theorem bk1_is_figures {f : Addr} {fd : FuncData} (F : Dfn K mg "is_figures" "is_figures" st_is_figures [("most", .int 13)] f fd) : BdK K fd ["word", "most"] 1 ["most"] (fun ds es => ds ++ es) := BdK.all F.fn 1 _ fun _ _ _ _ _ _ us ws h1 h2 => match us, ws, h1, h2 with | [_], [_], _, _ => rfl
theorem fn_is_figures {f : Addr} {fd : FuncData} (d : Dfn K mg "is_figures" "is_figures" st_is_figures [("most", .int 13)] f fd) (B : Bt mg) (T : Txt w K mg)  : FnG P w K mg base 1 f fd ["word", "most"] (spD K mg (["word", "most"] : List Str).length F_is_figures) := by
  obtain ⟨t_FIGURES, h_FIGURES⟩ := T.c_FIGURES
  have nd := (sc_is_figures).nd
  have h1 : ∀ (cdv : Value) (A : Around) (outer : List Env) (s : Shared) (H : Hp) (E : XK), A.guards = some [] → Room 0 (A.deeper (envOfC "is_figures" (defScope st_is_figures) s.heap.objs.size f cdv)) → PSsD (cxOf (L2.CX P w) P w K mg base ["word", "most", "sign"] "is_figures" (defScope st_is_figures) f cdv A outer s H E) (defBody st_is_figures) B_is_figures := by
    intro cdv A outer s H E hgd hr
    have hu : (A.deeper (envOfC "is_figures" (defScope st_is_figures) s.heap.objs.size f cdv)).units + 64 < cLine := by have := hr.un; omega
    exact (PSsD.cons (PSD.ite (PTD.of (PWD.or (PTD.not (tLeLe (fA PD.int) (fA (vF (cLen B (aC (nA 0) a0)))) (nA 1))) (PWD.or1 (PTD.not (tVal (cAll B rfl (aC (fA (vF (lcW (g := (gName 2)) [("sign", 2)] rfl nd (iStrW (nA 0)) (fun _ _ _ _ _ => (gN 2 nd)) (fun _ _ _ _ _ => PTsD.nil) (fun _ _ _ _ _ => (vF (oIn (nA 2) (fA (gStr h_FIGURES)))))))) a0)))))))
  (PSsD.one (PSD.ret (fV PD.bl)))
  PSsD.nil)
  (PSsD.one (PSD.ret (PD.or (oEq hu (nA 0) (fA PD.str)) (PD.and1 (oNe hu (fA (vF (xIx (nA 0) (fA PD.int)))) (fA PD.str)))))))
  have h2 := Dfn.ok d sc_is_figures h1
  have h3 : FnG P w K mg base 1 f fd ["word", "most"] (spD K mg 2 (bodyF 3 B_is_figures)) := h2
  have h4 : FnG P w K mg base 1 f fd ["word", "most"] (spD K mg 2 F_is_figures) := by rw [show F_is_figures = bodyF 3 B_is_figures from hide_eq _]; exact h3
  exact h4
theorem ok_is_figures (hd : ∃ f fd, Dfn K mg "is_figures" "is_figures" st_is_figures [("most", .int 13)] f fd) (B : Bt mg) (T : Txt w K mg)  : Has P w K mg base 1 "is_figures" "is_figures" st_is_figures [("most", .int 13)] ["word", "most"] F_is_figures := by
  obtain ⟨f, fd, d⟩ := hd
  exact ⟨⟨f, fd, d, fn_is_figures d B T ⟩⟩
/-! rows_of: names 0:text 1:rows 2:rest -/
noncomputable def B_rows_of : S → OutS :=
  (sSeq (sIf (tNot (mT (eIsi ["str"] (aVar 0))))
  (sRaise1 "NoText" "row" (eC (.int 0)))
  sNil)
  (sSeq (sStar [1, 2] 0 (mF (eMeth "str" splitG (aVar 0) (aCons (mA (eC (.str "\n"))) aNil))))
  (sRet (mV (eTup (fCons (eVar 1) (fCons (eVar 2) fNil)))))))
noncomputable def F_rows_of : List D → List D → OutF := hide (bodyF 3 B_rows_of)
theorem E_rows_of (ds h : List D) : F_rows_of ds h = (B_rows_of ⟨ds.map .fz ++ List.replicate (3 - ds.length) .un, h⟩).res := by rw [show F_rows_of = bodyF 3 B_rows_of from hide_eq _, bodyF_ap]
theorem sc_rows_of : FnScope ["text", "rows", "rest"] ["text"] (defScope st_rows_of) := ⟨rfl, rfl, rfl, by decide +kernel, rfl, by decide +kernel, by decide +kernel⟩
theorem bp_rows_of {f : Addr} {fd : FuncData} (F : Dfn K mg "rows_of" "rows_of" st_rows_of [] f fd) : BdP K fd ["text"] 1 (fun ds => ds) := BdP.all F.fn fun _ _ _ _ _ _ us hl => match us, hl with | [_], _ => rfl
theorem fn_rows_of {f : Addr} {fd : FuncData} (d : Dfn K mg "rows_of" "rows_of" st_rows_of [] f fd) (B : Bt mg) (T : Txt w K mg) (z_NoText : Rz1 P w K mg base "NoText" "row") : FnG P w K mg base 3 f fd ["text"] (spD K mg (["text"] : List Str).length F_rows_of) := by
  have nd := (sc_rows_of).nd
  have h1 : ∀ (cdv : Value) (A : Around) (outer : List Env) (s : Shared) (H : Hp) (E : XK), A.guards = some [] → Room 2 (A.deeper (envOfC "rows_of" (defScope st_rows_of) s.heap.objs.size f cdv)) → PSsD (cxOf (L2.CX P w) P w K mg base ["text", "rows", "rest"] "rows_of" (defScope st_rows_of) f cdv A outer s H E) (defBody st_rows_of) B_rows_of := by
    intro cdv A outer s H E hgd hr
    have hu : (A.deeper (envOfC "rows_of" (defScope st_rows_of) s.heap.objs.size f cdv)).units + 64 < cLine := by have := hr.un; omega
    exact (PSsD.cons (PSD.ite (PTD.not (tVal (cIsi B B.str bb_str (nA 0))))
  (PSsD.one (Rz1.raise z_NoText hr PD.int))
  PSsD.nil)
  (PSsD.cons (sStarN (is := [1, 2]) 0 rfl (vF (mSplit (nA 0) (aC (fA PD.str) a0))) (gsC (gNm 1 nd) (gsC (gNm 2 nd) gs0)) (.cons (.cons .nil)))
  (PSsD.one (PSD.ret (fV (xTup (fC (nF 1) (fC (nF 2) f0))))))))
  have h2 := Dfn.ok d sc_rows_of h1
  have h3 : FnG P w K mg base 3 f fd ["text"] (spD K mg 1 (bodyF 3 B_rows_of)) := h2
  have h4 : FnG P w K mg base 3 f fd ["text"] (spD K mg 1 F_rows_of) := by rw [show F_rows_of = bodyF 3 B_rows_of from hide_eq _]; exact h3
  exact h4
theorem ok_rows_of (hd : ∃ f fd, Dfn K mg "rows_of" "rows_of" st_rows_of [] f fd) (B : Bt mg) (T : Txt w K mg) (z_NoText : Rz1 P w K mg base "NoText" "row") : Has P w K mg base 3 "rows_of" "rows_of" st_rows_of [] ["text"] F_rows_of := by
  obtain ⟨f, fd, d⟩ := hd
  exact ⟨⟨f, fd, d, fn_rows_of d B T z_NoText⟩⟩
/-! told_by: names 0:form 1:words 2:most 3:good 4:sign 5:word -/
noncomputable def L_told_by_1 : S → Ou D := (eIf (mT (eOp2 eqG (aVar 4) (mA (eC (.str "d"))))) (mF (eCallK (fun ds es h => F_is_figures (ds ++ es) h) (fCons (eVar 5) fNil) (fCons (eVar 2) fNil))) (mF (eCall (fun ds h => F_is_name ds h) (fCons (eVar 5) fNil))))
theorem A_told_by_1 {r : List Sl} {h : List D} : L_told_by_1 ⟨r, h⟩ = (eIf (mT (eOp2 eqG (aVar 4) (mA (eC (.str "d"))))) (mF (eCallK (fun ds es h => F_is_figures (ds ++ es) h) (fCons (eVar 5) fNil) (fCons (eVar 2) fNil))) (mF (eCall (fun ds h => F_is_name ds h) (fCons (eVar 5) fNil)))) ⟨r, h⟩ := rfl
noncomputable def L_told_by_2 : S → Ou D := (eIf (mT (eOp2 eqG (aVar 4) (mA (eC (.str "d"))))) (mF (eOpN intG1 (aCons (aVar 5) aNil))) (eVar 5))
theorem A_told_by_2 {r : List Sl} {h : List D} : L_told_by_2 ⟨r, h⟩ = (eIf (mT (eOp2 eqG (aVar 4) (mA (eC (.str "d"))))) (mF (eOpN intG1 (aCons (aVar 5) aNil))) (eVar 5)) ⟨r, h⟩ := rfl
noncomputable def B_told_by : S → OutS :=
  (sSeq (sIf (mT (eOp2 neG (mA (mF (eOpN lenG (aCons (aVar 0) aNil)))) (mA (mF (eOpN lenG (aCons (aVar 1) aNil))))))
  (sRet (mV (eC (.non))))
  sNil)
  (sSeq (sSet 3 (eLc (iZip (fCons (eVar 0) (fCons (eVar 1) fNil))) [4, 5] (gtTup 2 (gtCons (gtName 4) (gtCons (gtName 5) gtNil))) (eC true) L_told_by_1))
  (sSeq (sIf (tNot (mT (eOpN allG (aCons (aVar 3) aNil))))
  (sRet (mV (eC (.non))))
  sNil)
  (sRet (eOpN tupleG (aCons (mA (mF (eLc (iZip (fCons (eVar 0) (fCons (eVar 1) fNil))) [4, 5] (gtTup 2 (gtCons (gtName 4) (gtCons (gtName 5) gtNil))) (eC true) L_told_by_2))) aNil))))))
noncomputable def F_told_by : List D → List D → OutF := hide (bodyF 6 B_told_by)
theorem E_told_by (ds h : List D) : F_told_by ds h = (B_told_by ⟨ds.map .fz ++ List.replicate (6 - ds.length) .un, h⟩).res := by rw [show F_told_by = bodyF 6 B_told_by from hide_eq _, bodyF_ap]
theorem sc_told_by : FnScope ["form", "words", "most", "good", "sign", "word"] ["form", "words", "most"] (defScope st_told_by) := ⟨rfl, rfl, rfl, by decide +kernel, rfl, by decide +kernel, by decide +kernel⟩
theorem bk2_told_by {f : Addr} {fd : FuncData} (F : Dfn K mg "told_by" "told_by" st_told_by [("most", .int 13)] f fd) : BdK K fd ["form", "words", "most"] 2 ["most"] (fun ds es => ds ++ es) := BdK.all F.fn 2 _ fun _ _ _ _ _ _ us ws h1 h2 => match us, ws, h1, h2 with | [_, _], [_], _, _ => rfl
theorem fn_told_by {f : Addr} {fd : FuncData} (d : Dfn K mg "told_by" "told_by" st_told_by [("most", .int 13)] f fd) (B : Bt mg) (T : Txt w K mg) (c_is_name : Has P w K mg base 1 "is_name" "is_name" st_is_name [] ["thing"] F_is_name) (c_is_figures : Has P w K mg base 1 "is_figures" "is_figures" st_is_figures [("most", .int 13)] ["word", "most"] F_is_figures) : FnG P w K mg base 2 f fd ["form", "words", "most"] (spD K mg (["form", "words", "most"] : List Str).length F_told_by) := by
  have nd := (sc_told_by).nd
  have h1 : ∀ (cdv : Value) (A : Around) (outer : List Env) (s : Shared) (H : Hp) (E : XK), A.guards = some [] → Room 1 (A.deeper (envOfC "told_by" (defScope st_told_by) s.heap.objs.size f cdv)) → PSsD (cxOf (L2.CX P w) P w K mg base ["form", "words", "most", "good", "sign", "word"] "told_by" (defScope st_told_by) f cdv A outer s H E) (defBody st_told_by) B_told_by := by
    intro cdv A outer s H E hgd hr
    have hu : (A.deeper (envOfC "told_by" (defScope st_told_by) s.heap.objs.size f cdv)).units + 64 < cLine := by have := hr.un; omega
    exact (PSsD.cons (PSD.ite (tNe hu (fA (vF (cLen B (aC (nA 0) a0)))) (fA (vF (cLen B (aC (nA 1) a0)))))
  (PSsD.one (PSD.ret (fV PD.non)))
  PSsD.nil)
  (PSsD.cons (setLcW (g := (gTup K 2 (gCons (gName 4) (gCons (gName 5) gNil)))) 3 [("sign", 4), ("word", 5)] rfl nd (iZipW B (fC (nF 0) (fC (nF 1) f0))) (fun _ _ _ _ _ => (gT rfl (gC (gN 4 nd) (gC (gN 5 nd) PGsD.nil)))) (fun _ _ _ _ _ => PTsD.nil) (fun _ _ _ _ _ => (PD.ite (tEq hu (nA 4) (fA PD.str)) (vF (Has.callK c_is_figures hgd hr (fun _ _ => bk1_is_figures) (fC (nF 5) f0) (PKF.cons (nF 2) k0))) (vF (Has.call c_is_name hgd hr (fun _ _ => bp_is_name) (fC (nF 5) f0))))))
  (PSsD.cons (PSD.ite (PTD.not (tVal (cAll B rfl (aC (nA 3) a0))))
  (PSsD.one (PSD.ret (fV PD.non)))
  PSsD.nil)
  (PSsD.one (PSD.ret (cTuple B (aC (fA (vF (lcW (g := (gTup K 2 (gCons (gName 4) (gCons (gName 5) gNil)))) [("sign", 4), ("word", 5)] rfl nd (iZipW B (fC (nF 0) (fC (nF 1) f0))) (fun _ _ _ _ _ => (gT rfl (gC (gN 4 nd) (gC (gN 5 nd) PGsD.nil)))) (fun _ _ _ _ _ => PTsD.nil) (fun _ _ _ _ _ => (PD.ite (tEq hu (nA 4) (fA PD.str)) (vF (cInt B (aC (nA 5) a0))) (nF 5)))))) a0)))))))
  have h2 := Dfn.ok d sc_told_by h1
  have h3 : FnG P w K mg base 2 f fd ["form", "words", "most"] (spD K mg 3 (bodyF 6 B_told_by)) := h2
  have h4 : FnG P w K mg base 2 f fd ["form", "words", "most"] (spD K mg 3 F_told_by) := by rw [show F_told_by = bodyF 6 B_told_by from hide_eq _]; exact h3
  exact h4
theorem ok_told_by (hd : ∃ f fd, Dfn K mg "told_by" "told_by" st_told_by [("most", .int 13)] f fd) (B : Bt mg) (T : Txt w K mg) (c_is_name : Has P w K mg base 1 "is_name" "is_name" st_is_name [] ["thing"] F_is_name) (c_is_figures : Has P w K mg base 1 "is_figures" "is_figures" st_is_figures [("most", .int 13)] ["word", "most"] F_is_figures) : Has P w K mg base 2 "told_by" "told_by" st_told_by [("most", .int 13)] ["form", "words", "most"] F_told_by := by
  obtain ⟨f, fd, d⟩ := hd
  exact ⟨⟨f, fd, d, fn_told_by d B T c_is_name c_is_figures⟩⟩
/-! row_text: names 0:things 1:thing -/
noncomputable def L_row_text_1 : S → Ou D := (mF (eOpN strG (aCons (aVar 1) aNil)))
theorem A_row_text_1 {r : List Sl} {h : List D} : L_row_text_1 ⟨r, h⟩ = (mF (eOpN strG (aCons (aVar 1) aNil))) ⟨r, h⟩ := rfl
noncomputable def B_row_text : S → OutS :=
  (sRet (eOp2 addG (mA (mF (eMeth "str" joinG (mA (eC (.str " "))) (aCons (mA (mF (eLc (iSeq (aVar 0)) [1] (gtName 1) (eC true) L_row_text_1))) aNil)))) (mA (eC (.str "\n")))))
noncomputable def F_row_text : List D → List D → OutF := hide (bodyF 2 B_row_text)
theorem E_row_text (ds h : List D) : F_row_text ds h = (B_row_text ⟨ds.map .fz ++ List.replicate (2 - ds.length) .un, h⟩).res := by rw [show F_row_text = bodyF 2 B_row_text from hide_eq _, bodyF_ap]
theorem sc_row_text : FnScope ["things", "thing"] ["things"] (defScope st_row_text) := ⟨rfl, rfl, rfl, by decide +kernel, rfl, by decide +kernel, by decide +kernel⟩
theorem bp_row_text {f : Addr} {fd : FuncData} (F : Dfn K mg "row_text" "row_text" st_row_text [] f fd) : BdP K fd ["things"] 1 (fun ds => ds) := BdP.all F.fn fun _ _ _ _ _ _ us hl => match us, hl with | [_], _ => rfl
theorem fn_row_text {f : Addr} {fd : FuncData} (d : Dfn K mg "row_text" "row_text" st_row_text [] f fd) (B : Bt mg) (T : Txt w K mg)  : FnG P w K mg base 1 f fd ["things"] (spD K mg (["things"] : List Str).length F_row_text) := by
  have nd := (sc_row_text).nd
  have h1 : ∀ (cdv : Value) (A : Around) (outer : List Env) (s : Shared) (H : Hp) (E : XK), A.guards = some [] → Room 0 (A.deeper (envOfC "row_text" (defScope st_row_text) s.heap.objs.size f cdv)) → PSsD (cxOf (L2.CX P w) P w K mg base ["things", "thing"] "row_text" (defScope st_row_text) f cdv A outer s H E) (defBody st_row_text) B_row_text := by
    intro cdv A outer s H E hgd hr
    have hu : (A.deeper (envOfC "row_text" (defScope st_row_text) s.heap.objs.size f cdv)).units + 64 < cLine := by have := hr.un; omega
    exact (PSsD.one (PSD.ret (oAdd (fA (vF (mJoin (fA PD.str) (aC (fA (vF (lcW (g := (gName 1)) [("thing", 1)] rfl nd (iSeqW (nA 0)) (fun _ _ _ _ _ => (gN 1 nd)) (fun _ _ _ _ _ => PTsD.nil) (fun _ _ _ _ _ => (vF (cStr B (aC (nA 1) a0))))))) a0)))) (fA PD.str))))
  have h2 := Dfn.ok d sc_row_text h1
  have h3 : FnG P w K mg base 1 f fd ["things"] (spD K mg 1 (bodyF 2 B_row_text)) := h2
  have h4 : FnG P w K mg base 1 f fd ["things"] (spD K mg 1 F_row_text) := by rw [show F_row_text = bodyF 2 B_row_text from hide_eq _]; exact h3
  exact h4
theorem ok_row_text (hd : ∃ f fd, Dfn K mg "row_text" "row_text" st_row_text [] f fd) (B : Bt mg) (T : Txt w K mg)  : Has P w K mg base 1 "row_text" "row_text" st_row_text [] ["things"] F_row_text := by
  obtain ⟨f, fd, d⟩ := hd
  exact ⟨⟨f, fd, d, fn_row_text d B T ⟩⟩
/-! edit_told: names 0:words 1:most 2:ahead 3:behind -/
noncomputable def B_edit_told : S → OutS :=
  (sSeq (sIf (tOr (mT (eOp2 ltG (mA (mF (eOpN lenG (aCons (aVar 0) aNil)))) (mA (eC (.int 4))))) (mT (ktIn tb_FORMS true (mF (eOp2 ixG (aVar 0) (mA (eC (.int 2))))))))
  (sRet (mV (eC (.non))))
  sNil)
  (sSeq (sPar [2, 3] (vCons (eCallK (fun ds es h => F_told_by (ds ++ es) h) (fCons (eC (.str "dn")) (fCons (mF (eSlc (aVar 0) (eC none) (oInt (eC (.int 2))))) fNil)) (fCons (eVar 1) fNil)) (vCons (eCallK (fun ds es h => F_told_by (ds ++ es) h) (fCons (mF (ktIx tb_FORMS (mF (eOp2 ixG (aVar 0) (mA (eC (.int 2))))))) (fCons (mF (eSlc (aVar 0) (oInt (eC (.int 3))) (eC none))) fNil)) (fCons (eVar 1) fNil)) vNil)))
  (sRet (eIf (tOr (mT (eOp2 (isNG false) (aVar 2) (mA (eC (.non))))) (mT (eOp2 (isNG false) (aVar 3) (mA (eC (.non)))))) (mV (eC (.non))) (eOp2 addG (aVar 2) (mA (eTup (fCons (mF (eOp2 addG (mA (eTup (fCons (mF (eOp2 ixG (aVar 0) (mA (eC (.int 2))))) fNil))) (aVar 3))) fNil))))))))
noncomputable def F_edit_told : List D → List D → OutF := hide (bodyF 4 B_edit_told)
theorem E_edit_told (ds h : List D) : F_edit_told ds h = (B_edit_told ⟨ds.map .fz ++ List.replicate (4 - ds.length) .un, h⟩).res := by rw [show F_edit_told = bodyF 4 B_edit_told from hide_eq _, bodyF_ap]
theorem sc_edit_told : FnScope ["words", "most", "ahead", "behind"] ["words", "most"] (defScope st_edit_told) := ⟨rfl, rfl, rfl, by decide +kernel, rfl, by decide +kernel, by decide +kernel⟩
theorem bd_edit_told {f : Addr} {fd : FuncData} (F : Dfn K mg "edit_told" "edit_told" st_edit_told [("most", .int 13)] f fd) : BdP K fd ["words", "most"] 1 (fun ds => ds ++ [.int 13]) := BdP.dfl F.fn 1 _ (by decide) rfl (fun W => ⟨_, _, rfl, rfl, rfl⟩) fun _ _ _ _ _ _ us ks hl hk => match us, ks, hl, hk with | [_], [_], _, _ => ⟨_, _, _, _, _, _, rfl, rfl, rfl⟩
theorem fn_edit_told {f : Addr} {fd : FuncData} (d : Dfn K mg "edit_told" "edit_told" st_edit_told [("most", .int 13)] f fd) (B : Bt mg) (T : Txt w K mg) (c_told_by : Has P w K mg base 2 "told_by" "told_by" st_told_by [("most", .int 13)] ["form", "words", "most"] F_told_by) : FnG P w K mg base 3 f fd ["words", "most"] (spD K mg (["words", "most"] : List Str).length F_edit_told) := by
  obtain ⟨d_FORMS, m_FORMS, T_FORMS⟩ := T.t_FORMS
  have nd := (sc_edit_told).nd
  have h1 : ∀ (cdv : Value) (A : Around) (outer : List Env) (s : Shared) (H : Hp) (E : XK), A.guards = some [] → Room 2 (A.deeper (envOfC "edit_told" (defScope st_edit_told) s.heap.objs.size f cdv)) → PSsD (cxOf (L2.CX P w) P w K mg base ["words", "most", "ahead", "behind"] "edit_told" (defScope st_edit_told) f cdv A outer s H E) (defBody st_edit_told) B_edit_told := by
    intro cdv A outer s H E hgd hr
    have hu : (A.deeper (envOfC "edit_told" (defScope st_edit_told) s.heap.objs.size f cdv)).units + 64 < cLine := by have := hr.un; omega
    exact (PSsD.cons (PSD.ite (PTD.of (PWD.or (tLt (fA (vF (cLen B (aC (nA 0) a0)))) (fA PD.int)) (PWD.or1 (tTabNotIn T_FORMS m_FORMS (vF (xIx (nA 0) (fA PD.int)))))))
  (PSsD.one (PSD.ret (fV PD.non)))
  PSsD.nil)
  (PSsD.cons (sPar2 2 3 rfl nd (vC (Has.callK c_told_by hgd hr (fun _ _ => bk2_told_by) (fC PD.str (fC (vF (xSlc (nA 0) sl0 (slS PD.int))) f0)) (PKF.cons (nF 1) k0)) (vC (Has.callK c_told_by hgd hr (fun _ _ => bk2_told_by) (fC (vF (tabIx T_FORMS m_FORMS (vF (xIx (nA 0) (fA PD.int))))) (fC (vF (xSlc (nA 0) (slS PD.int) sl0)) f0)) (PKF.cons (nF 1) k0)) v0)) (vCons_len (vCons_len vNil_len)))
  (PSsD.one (PSD.ret (PD.ite (PTD.of (PWD.or (tIs (nA 2) (fA PD.non)) (PWD.or1 (tIs (nA 3) (fA PD.non))))) (fV PD.non) (oAdd (nA 2) (fA (xTup (fC (vF (oAdd (fA (xTup (fC (vF (xIx (nA 0) (fA PD.int))) f0))) (nA 3))) f0)))))))))
  have h2 := Dfn.ok d sc_edit_told h1
  have h3 : FnG P w K mg base 3 f fd ["words", "most"] (spD K mg 2 (bodyF 4 B_edit_told)) := h2
  have h4 : FnG P w K mg base 3 f fd ["words", "most"] (spD K mg 2 F_edit_told) := by rw [show F_edit_told = bodyF 4 B_edit_told from hide_eq _]; exact h3
  exact h4
theorem ok_edit_told (hd : ∃ f fd, Dfn K mg "edit_told" "edit_told" st_edit_told [("most", .int 13)] f fd) (B : Bt mg) (T : Txt w K mg) (c_told_by : Has P w K mg base 2 "told_by" "told_by" st_told_by [("most", .int 13)] ["form", "words", "most"] F_told_by) : Has P w K mg base 3 "edit_told" "edit_told" st_edit_told [("most", .int 13)] ["words", "most"] F_edit_told := by
  obtain ⟨f, fd, d⟩ := hd
  exact ⟨⟨f, fd, d, fn_edit_told d B T c_told_by⟩⟩
/-! edits_text: names 0:edits 1:stamp 2:hand 3:what -/
noncomputable def L_edits_text_1 : S → Ou D := (mF (eCall (fun ds h => F_row_text ds h) (fCons (mF (eOp2 addG (mA (eTup (fCons (eVar 1) (fCons (eVar 2) fNil)))) (aVar 3))) fNil)))
theorem A_edits_text_1 {r : List Sl} {h : List D} : L_edits_text_1 ⟨r, h⟩ = (mF (eCall (fun ds h => F_row_text ds h) (fCons (mF (eOp2 addG (mA (eTup (fCons (eVar 1) (fCons (eVar 2) fNil)))) (aVar 3))) fNil))) ⟨r, h⟩ := rfl
noncomputable def B_edits_text : S → OutS :=
  (sSeq (sExpr (eCall (fun ds h => F_need_edits ds h) (fCons (eVar 0) fNil)))
  (sRet (eMeth "str" joinG (mA (eC (.str ""))) (aCons (mA (mF (eLc (iSeq (aVar 0)) [1, 2, 3] (gtTup 3 (gtCons (gtName 1) (gtCons (gtName 2) (gtCons (gtName 3) gtNil)))) (eC true) L_edits_text_1))) aNil))))
noncomputable def F_edits_text : List D → List D → OutF := hide (bodyF 4 B_edits_text)
theorem E_edits_text (ds h : List D) : F_edits_text ds h = (B_edits_text ⟨ds.map .fz ++ List.replicate (4 - ds.length) .un, h⟩).res := by rw [show F_edits_text = bodyF 4 B_edits_text from hide_eq _, bodyF_ap]
theorem sc_edits_text : FnScope ["edits", "stamp", "hand", "what"] ["edits"] (defScope st_edits_text) := ⟨rfl, rfl, rfl, by decide +kernel, rfl, by decide +kernel, by decide +kernel⟩
theorem bp_edits_text {f : Addr} {fd : FuncData} (F : Dfn K mg "edits_text" "edits_text" st_edits_text [] f fd) : BdP K fd ["edits"] 1 (fun ds => ds) := BdP.all F.fn fun _ _ _ _ _ _ us hl => match us, hl with | [_], _ => rfl
theorem fn_edits_text {f : Addr} {fd : FuncData} (d : Dfn K mg "edits_text" "edits_text" st_edits_text [] f fd) (B : Bt mg) (T : Txt w K mg) (c_need_edits : Has P w K mg base 6 "need_edits" "need_edits" st_need_edits [] ["edits"] F_need_edits) (c_row_text : Has P w K mg base 1 "row_text" "row_text" st_row_text [] ["things"] F_row_text) : FnG P w K mg base 7 f fd ["edits"] (spD K mg (["edits"] : List Str).length F_edits_text) := by
  have nd := (sc_edits_text).nd
  have h1 : ∀ (cdv : Value) (A : Around) (outer : List Env) (s : Shared) (H : Hp) (E : XK), A.guards = some [] → Room 6 (A.deeper (envOfC "edits_text" (defScope st_edits_text) s.heap.objs.size f cdv)) → PSsD (cxOf (L2.CX P w) P w K mg base ["edits", "stamp", "hand", "what"] "edits_text" (defScope st_edits_text) f cdv A outer s H E) (defBody st_edits_text) B_edits_text := by
    intro cdv A outer s H E hgd hr
    have hu : (A.deeper (envOfC "edits_text" (defScope st_edits_text) s.heap.objs.size f cdv)).units + 64 < cLine := by have := hr.un; omega
    exact (PSsD.cons (sExprN (Has.call c_need_edits hgd hr (fun _ _ => bp_need_edits) (fC (nF 0) f0)))
  (PSsD.one (PSD.ret (mJoin (fA PD.str) (aC (fA (vF (lcW (g := (gTup K 3 (gCons (gName 1) (gCons (gName 2) (gCons (gName 3) gNil))))) [("stamp", 1), ("hand", 2), ("what", 3)] rfl nd (iSeqW (nA 0)) (fun _ _ _ _ _ => (gT rfl (gC (gN 1 nd) (gC (gN 2 nd) (gC (gN 3 nd) PGsD.nil))))) (fun _ _ _ _ _ => PTsD.nil) (fun _ _ _ _ _ => (vF (Has.call c_row_text hgd hr (fun _ _ => bp_row_text) (fC (vF (oAdd (fA (xTup (fC (nF 1) (fC (nF 2) f0)))) (nA 3))) f0))))))) a0)))))
  have h2 := Dfn.ok d sc_edits_text h1
  have h3 : FnG P w K mg base 7 f fd ["edits"] (spD K mg 1 (bodyF 4 B_edits_text)) := h2
  have h4 : FnG P w K mg base 7 f fd ["edits"] (spD K mg 1 F_edits_text) := by rw [show F_edits_text = bodyF 4 B_edits_text from hide_eq _]; exact h3
  exact h4
theorem ok_edits_text (hd : ∃ f fd, Dfn K mg "edits_text" "edits_text" st_edits_text [] f fd) (B : Bt mg) (T : Txt w K mg) (c_need_edits : Has P w K mg base 6 "need_edits" "need_edits" st_need_edits [] ["edits"] F_need_edits) (c_row_text : Has P w K mg base 1 "row_text" "row_text" st_row_text [] ["things"] F_row_text) : Has P w K mg base 7 "edits_text" "edits_text" st_edits_text [] ["edits"] F_edits_text := by
  obtain ⟨f, fd, d⟩ := hd
  exact ⟨⟨f, fd, d, fn_edits_text d B T c_need_edits c_row_text⟩⟩
/-! read_edits: names 0:text 1:rows 2:rest 3:found 4:at 5:row 6:edit -/
noncomputable def L_read_edits_1 : S → OutS := (sSeq (sSet 6 (eCall (fun ds h => F_edit_told (ds ++ [.int 13]) h) (fCons (mF (eMeth "str" splitG (aVar 5) (aCons (mA (eC (.str " "))) aNil))) fNil)))
  (sSeq (sIf (tNot (mT (eCall (fun ds h => F_is_edit ds h) (fCons (eVar 6) fNil))))
  (sRaise1 "NoText" "row" (eVar 4))
  sNil)
  (sExpr (eMut "list" appendG (aVar 3) (fCons (eVar 6) fNil)))))
theorem A_read_edits_1 {r : List Sl} {h : List D} : L_read_edits_1 ⟨r, h⟩ = (sSeq (sSet 6 (eCall (fun ds h => F_edit_told (ds ++ [.int 13]) h) (fCons (mF (eMeth "str" splitG (aVar 5) (aCons (mA (eC (.str " "))) aNil))) fNil)))
  (sSeq (sIf (tNot (mT (eCall (fun ds h => F_is_edit ds h) (fCons (eVar 6) fNil))))
  (sRaise1 "NoText" "row" (eVar 4))
  sNil)
  (sExpr (eMut "list" appendG (aVar 3) (fCons (eVar 6) fNil))))) ⟨r, h⟩ := rfl
noncomputable def B_read_edits : S → OutS :=
  (sSeq (sUnp (gtTup 2 (gtCons (gtName 1) (gtCons (gtName 2) gtNil))) (mF (eCall (fun ds h => F_rows_of ds h) (fCons (eVar 0) fNil))))
  (sSeq (sSet 3 (eLst fNil))
  (sSeq (sFor (iEnum (aCons (aVar 1) aNil)) (gtTup 2 (gtCons (gtName 4) (gtCons (gtName 5) gtNil))) L_read_edits_1)
  (sSeq (sIf (mT (eOp2 neG (aVar 2) (mA (eC (.str "")))))
  (sRaise1 "NoText" "row" (mF (eOpN lenG (aCons (aVar 1) aNil))))
  sNil)
  (sRet (vVar 3))))))
noncomputable def F_read_edits : List D → List D → OutF := hide (bodyF 7 B_read_edits)
theorem E_read_edits (ds h : List D) : F_read_edits ds h = (B_read_edits ⟨ds.map .fz ++ List.replicate (7 - ds.length) .un, h⟩).res := by rw [show F_read_edits = bodyF 7 B_read_edits from hide_eq _, bodyF_ap]
theorem sc_read_edits : FnScope ["text", "rows", "rest", "found", "at", "row", "edit"] ["text"] (defScope st_read_edits) := ⟨rfl, rfl, rfl, by decide +kernel, rfl, by decide +kernel, by decide +kernel⟩
theorem bp_read_edits {f : Addr} {fd : FuncData} (F : Dfn K mg "read_edits" "read_edits" st_read_edits [] f fd) : BdP K fd ["text"] 1 (fun ds => ds) := BdP.all F.fn fun _ _ _ _ _ _ us hl => match us, hl with | [_], _ => rfl
theorem fn_read_edits {f : Addr} {fd : FuncData} (d : Dfn K mg "read_edits" "read_edits" st_read_edits [] f fd) (B : Bt mg) (T : Txt w K mg) (c_is_edit : Has P w K mg base 5 "is_edit" "is_edit" st_is_edit [] ["thing"] F_is_edit) (c_rows_of : Has P w K mg base 3 "rows_of" "rows_of" st_rows_of [] ["text"] F_rows_of) (c_edit_told : Has P w K mg base 3 "edit_told" "edit_told" st_edit_told [("most", .int 13)] ["words", "most"] F_edit_told) (z_NoText : Rz1 P w K mg base "NoText" "row") : FnG P w K mg base 6 f fd ["text"] (spD K mg (["text"] : List Str).length F_read_edits) := by
  have nd := (sc_read_edits).nd
  have h1 : ∀ (cdv : Value) (A : Around) (outer : List Env) (s : Shared) (H : Hp) (E : XK), A.guards = some [] → Room 5 (A.deeper (envOfC "read_edits" (defScope st_read_edits) s.heap.objs.size f cdv)) → PSsD (cxOf (L2.CX P w) P w K mg base ["text", "rows", "rest", "found", "at", "row", "edit"] "read_edits" (defScope st_read_edits) f cdv A outer s H E) (defBody st_read_edits) B_read_edits := by
    intro cdv A outer s H E hgd hr
    have hu : (A.deeper (envOfC "read_edits" (defScope st_read_edits) s.heap.objs.size f cdv)).units + 64 < cLine := by have := hr.un; omega
    exact (PSsD.cons (sUnpW (vF (Has.call c_rows_of hgd hr (fun _ _ => bp_rows_of) (fC (nF 0) f0))) (gT rfl (gC (gN 1 nd) (gC (gN 2 nd) PGsD.nil))))
  (PSsD.cons (sSetN 3 nd (xLst f0))
  (PSsD.cons (sForN (passes_of rfl) rfl (iEnumW B (aC (nA 1) a0)) (gT rfl (gC (gN 4 nd) (gC (gN 5 nd) PGsD.nil)))
  (PSsD.cons (sSetN 6 nd (Has.call c_edit_told hgd hr (fun _ _ => bd_edit_told) (fC (vF (mSplit (nA 5) (aC (fA PD.str) a0))) f0)))
  (PSsD.cons (PSD.ite (PTD.not (tVal (Has.call c_is_edit hgd hr (fun _ _ => bp_is_edit) (fC (nF 6) f0))))
  (PSsD.one (Rz1.raise z_NoText hr (nF 4)))
  PSsD.nil)
  (PSsD.one (sExprN (mAppend (nA 3) (fC (nF 6) f0)))))))
  (PSsD.cons (PSD.ite (tNe hu (nA 2) (fA PD.str))
  (PSsD.one (Rz1.raise z_NoText hr (vF (cLen B (aC (nA 1) a0)))))
  PSsD.nil)
  (PSsD.one (PSD.ret (nV 3)))))))
  have h2 := Dfn.ok d sc_read_edits h1
  have h3 : FnG P w K mg base 6 f fd ["text"] (spD K mg 1 (bodyF 7 B_read_edits)) := h2
  have h4 : FnG P w K mg base 6 f fd ["text"] (spD K mg 1 F_read_edits) := by rw [show F_read_edits = bodyF 7 B_read_edits from hide_eq _]; exact h3
  exact h4
theorem ok_read_edits (hd : ∃ f fd, Dfn K mg "read_edits" "read_edits" st_read_edits [] f fd) (B : Bt mg) (T : Txt w K mg) (c_is_edit : Has P w K mg base 5 "is_edit" "is_edit" st_is_edit [] ["thing"] F_is_edit) (c_rows_of : Has P w K mg base 3 "rows_of" "rows_of" st_rows_of [] ["text"] F_rows_of) (c_edit_told : Has P w K mg base 3 "edit_told" "edit_told" st_edit_told [("most", .int 13)] ["words", "most"] F_edit_told) (z_NoText : Rz1 P w K mg base "NoText" "row") : Has P w K mg base 6 "read_edits" "read_edits" st_read_edits [] ["text"] F_read_edits := by
  obtain ⟨f, fd, d⟩ := hd
  exact ⟨⟨f, fd, d, fn_read_edits d B T c_is_edit c_rows_of c_edit_told z_NoText⟩⟩
/-! _law_mixed: names 0:_law_cell 1:_law_turn 2:_law_mix -/
noncomputable def B__law_mixed : S → OutS :=
  (sSeq (sSet 2 (eOp2 modG (mA (mF (eOp2 powG (mA (mF (eOp2 modG (mA (mF (eOp2 mulG (mA (mF (eOp2 addG (mA (mF (eOp2 addG (mA (mF (eOp2 modG (aVar 0) (mA (eC (.int 2147483399)))))) (mA (mF (eOp2 mulG (mA (eC (.int 104729))) (aVar 1))))))) (mA (eC (.int 11)))))) (mA (eC (.int 48271)))))) (mA (eC (.int 2147483399)))))) (mA (eC (.int 5)))))) (mA (eC (.int 2147483399)))))
  (sSeq (sIf (mT (eOp2 ltG (aVar 0) (mA (mF (eOp2 powG (mA (eC (.int 10))) (mA (eC (.int 18))))))))
  (sRet (vVar 2))
  sNil)
  (sRet (eOp2 modG (mA (mF (eOp2 addG (aVar 2) (mA (mF (eOp2 modG (mA (mF (eOp2 fdivG (aVar 0) (mA (mF (eOp2 powG (mA (eC (.int 10))) (mA (eC (.int 18))))))))) (mA (mF (eOp2 addG (mA (eC (.int 1))) (mA (mF (eOp2 mulG (mA (mF (eOp2 addG (aVar 1) (mA (eC (.int 1)))))) (mA (eC (.int 4014476939333036189094441199026045136645885247730))))))))))))))) (mA (eC (.int 2147483399)))))))
noncomputable def F__law_mixed : List D → List D → OutF := hide (bodyF 3 B__law_mixed)
theorem E__law_mixed (ds h : List D) : F__law_mixed ds h = (B__law_mixed ⟨ds.map .fz ++ List.replicate (3 - ds.length) .un, h⟩).res := by rw [show F__law_mixed = bodyF 3 B__law_mixed from hide_eq _, bodyF_ap]
theorem sc__law_mixed : FnScope ["_law_cell", "_law_turn", "_law_mix"] ["_law_cell", "_law_turn"] (defScope st__law_mixed) := ⟨rfl, rfl, rfl, by decide +kernel, rfl, by decide +kernel, by decide +kernel⟩
theorem bp__law_mixed {f : Addr} {fd : FuncData} (F : Dfn K mg "_law_mixed" "_law_mixed" st__law_mixed [] f fd) : BdP K fd ["_law_cell", "_law_turn"] 2 (fun ds => ds) := BdP.all F.fn fun _ _ _ _ _ _ us hl => match us, hl with | [_, _], _ => rfl
theorem fn__law_mixed {f : Addr} {fd : FuncData} (d : Dfn K mg "_law_mixed" "_law_mixed" st__law_mixed [] f fd) (B : Bt mg) (T : Txt w K mg)  : FnG P w K mg base 1 f fd ["_law_cell", "_law_turn"] (spD K mg (["_law_cell", "_law_turn"] : List Str).length F__law_mixed) := by
  have nd := (sc__law_mixed).nd
  have h1 : ∀ (cdv : Value) (A : Around) (outer : List Env) (s : Shared) (H : Hp) (E : XK), A.guards = some [] → Room 0 (A.deeper (envOfC "_law_mixed" (defScope st__law_mixed) s.heap.objs.size f cdv)) → PSsD (cxOf (L2.CX P w) P w K mg base ["_law_cell", "_law_turn", "_law_mix"] "_law_mixed" (defScope st__law_mixed) f cdv A outer s H E) (defBody st__law_mixed) B__law_mixed := by
    intro cdv A outer s H E hgd hr
    have hu : (A.deeper (envOfC "_law_mixed" (defScope st__law_mixed) s.heap.objs.size f cdv)).units + 64 < cLine := by have := hr.un; omega
    exact (PSsD.cons (sSetN 2 nd (oMod (fA (vF (oPow (fA (vF (oMod (fA (vF (oMul (fA (vF (oAdd (fA (vF (oAdd (fA (vF (oMod (nA 0) (fA PD.int)))) (fA (vF (oMul (fA PD.int) (nA 1))))))) (fA PD.int)))) (fA PD.int)))) (fA PD.int)))) (fA PD.int)))) (fA PD.int)))
  (PSsD.cons (PSD.ite (tLt (nA 0) (fA (vF (oPow (fA PD.int) (fA PD.int)))))
  (PSsD.one (PSD.ret (nV 2)))
  PSsD.nil)
  (PSsD.one (PSD.ret (oMod (fA (vF (oAdd (nA 2) (fA (vF (oMod (fA (vF (oDiv (nA 0) (fA (vF (oPow (fA PD.int) (fA PD.int))))))) (fA (vF (oAdd (fA PD.int) (fA (vF (oMul (fA (vF (oAdd (nA 1) (fA PD.int)))) (fA PD.int))))))))))))) (fA PD.int))))))
  have h2 := Dfn.ok d sc__law_mixed h1
  have h3 : FnG P w K mg base 1 f fd ["_law_cell", "_law_turn"] (spD K mg 2 (bodyF 3 B__law_mixed)) := h2
  have h4 : FnG P w K mg base 1 f fd ["_law_cell", "_law_turn"] (spD K mg 2 F__law_mixed) := by rw [show F__law_mixed = bodyF 3 B__law_mixed from hide_eq _]; exact h3
  exact h4
theorem ok__law_mixed (hd : ∃ f fd, Dfn K mg "_law_mixed" "_law_mixed" st__law_mixed [] f fd) (B : Bt mg) (T : Txt w K mg)  : Has P w K mg base 1 "_law_mixed" "_law_mixed" st__law_mixed [] ["_law_cell", "_law_turn"] F__law_mixed := by
  obtain ⟨f, fd, d⟩ := hd
  exact ⟨⟨f, fd, d, fn__law_mixed d B T ⟩⟩
/-! _law_next: names 0:_law_draw 1:_law_size 2:_law_at 3:_law_many 4:_law_cell -/
noncomputable def B__law_next : S → OutS :=
  (sSeq (sSet 2 (eOp2 ixG (aVar 0) (mA (eC (.int 1)))))
  (sSeq (sSub setLG (mF (eOp2 addG (aVar 2) (mA (eC (.int 1))))) (aVar 0) (eC (.int 1)))
  (sSeq (sSet 3 (eOpN maxG (aCons (mA (eC (.int 1))) (aCons (mA (mF (eOpN lenG (aCons (mA (mF (eOp2 ixG (aVar 0) (mA (eC (.int 0)))))) aNil)))) aNil))))
  (sSeq (sSet 4 (mV (eC (.int 0))))
  (sSeq (sIf (mT (eOp2 neG (mA (mF (eOp2 ixG (aVar 0) (mA (eC (.int 0)))))) (mA (mF (eLst fNil)))))
  (sSet 4 (eOp2 ixG (mA (mF (eOp2 ixG (aVar 0) (mA (eC (.int 0)))))) (mA (mF (eOp2 modG (aVar 2) (aVar 3))))))
  sNil)
  (sRet (eOp2 modG (mA (mF (eOp2 fdivG (mA (mF (eCall (fun ds h => F__law_mixed ds h) (fCons (eVar 4) (fCons (mF (eOp2 modG (mA (mF (eOp2 fdivG (aVar 2) (aVar 3)))) (mA (eC (.int 127))))) fNil))))) (mA (eC (.int 7)))))) (aVar 1))))))))
noncomputable def F__law_next : List D → List D → OutF := hide (bodyF 5 B__law_next)
theorem E__law_next (ds h : List D) : F__law_next ds h = (B__law_next ⟨ds.map .fz ++ List.replicate (5 - ds.length) .un, h⟩).res := by rw [show F__law_next = bodyF 5 B__law_next from hide_eq _, bodyF_ap]
theorem sc__law_next : FnScope ["_law_draw", "_law_size", "_law_at", "_law_many", "_law_cell"] ["_law_draw", "_law_size"] (defScope st__law_next) := ⟨rfl, rfl, rfl, by decide +kernel, rfl, by decide +kernel, by decide +kernel⟩
theorem bp__law_next {f : Addr} {fd : FuncData} (F : Dfn K mg "_law_next" "_law_next" st__law_next [] f fd) : BdP K fd ["_law_draw", "_law_size"] 2 (fun ds => ds) := BdP.all F.fn fun _ _ _ _ _ _ us hl => match us, hl with | [_, _], _ => rfl
theorem fn__law_next {f : Addr} {fd : FuncData} (d : Dfn K mg "_law_next" "_law_next" st__law_next [] f fd) (B : Bt mg) (T : Txt w K mg) (c__law_mixed : Has P w K mg base 1 "_law_mixed" "_law_mixed" st__law_mixed [] ["_law_cell", "_law_turn"] F__law_mixed) : FnG P w K mg base 2 f fd ["_law_draw", "_law_size"] (spD K mg (["_law_draw", "_law_size"] : List Str).length F__law_next) := by
  have nd := (sc__law_next).nd
  have h1 : ∀ (cdv : Value) (A : Around) (outer : List Env) (s : Shared) (H : Hp) (E : XK), A.guards = some [] → Room 1 (A.deeper (envOfC "_law_next" (defScope st__law_next) s.heap.objs.size f cdv)) → PSsD (cxOf (L2.CX P w) P w K mg base ["_law_draw", "_law_size", "_law_at", "_law_many", "_law_cell"] "_law_next" (defScope st__law_next) f cdv A outer s H E) (defBody st__law_next) B__law_next := by
    intro cdv A outer s H E hgd hr
    have hu : (A.deeper (envOfC "_law_next" (defScope st__law_next) s.heap.objs.size f cdv)).units + 64 < cLine := by have := hr.un; omega
    exact (PSsD.cons (sSetN 2 nd (xIx (nA 0) (fA PD.int)))
  (PSsD.cons (sSubL (vF (oAdd (nA 2) (fA PD.int))) (nA 0) PD.int)
  (PSsD.cons (sSetN 3 nd (cMax B rfl (aC (fA PD.int) (aC (fA (vF (cLen B (aC (fA (vF (xIx (nA 0) (fA PD.int)))) a0)))) a0))))
  (PSsD.cons (sSetN 4 nd (fV PD.int))
  (PSsD.cons (PSD.ite (tNe hu (fA (vF (xIx (nA 0) (fA PD.int)))) (fA (vF (xLst f0))))
  (PSsD.one (sSetN 4 nd (xIx (fA (vF (xIx (nA 0) (fA PD.int)))) (fA (vF (oMod (nA 2) (nA 3)))))))
  PSsD.nil)
  (PSsD.one (PSD.ret (oMod (fA (vF (oDiv (fA (vF (Has.call c__law_mixed hgd hr (fun _ _ => bp__law_mixed) (fC (nF 4) (fC (vF (oMod (fA (vF (oDiv (nA 2) (nA 3)))) (fA PD.int))) f0))))) (fA PD.int)))) (nA 1)))))))))
  have h2 := Dfn.ok d sc__law_next h1
  have h3 : FnG P w K mg base 2 f fd ["_law_draw", "_law_size"] (spD K mg 2 (bodyF 5 B__law_next)) := h2
  have h4 : FnG P w K mg base 2 f fd ["_law_draw", "_law_size"] (spD K mg 2 F__law_next) := by rw [show F__law_next = bodyF 5 B__law_next from hide_eq _]; exact h3
  exact h4
theorem ok__law_next (hd : ∃ f fd, Dfn K mg "_law_next" "_law_next" st__law_next [] f fd) (B : Bt mg) (T : Txt w K mg) (c__law_mixed : Has P w K mg base 1 "_law_mixed" "_law_mixed" st__law_mixed [] ["_law_cell", "_law_turn"] F__law_mixed) : Has P w K mg base 2 "_law_next" "_law_next" st__law_next [] ["_law_draw", "_law_size"] F__law_next := by
  obtain ⟨f, fd, d⟩ := hd
  exact ⟨⟨f, fd, d, fn__law_next d B T c__law_mixed⟩⟩
/-! _law_names: names 0:_law_draw 1:_law_many 2:_law_own 3:_law_letters 4:_law_found 5:_law_sort 6:_law_name 7:_law_fresh 8:_law_spot 9:_law_one -/
noncomputable def L__law_names_1 : S → Ou D := (mF (eOp2 ixG (aVar 3) (mA (mF (eCall (fun ds h => F__law_next ds h) (fCons (eVar 0) (fCons (eC (.int 36)) fNil)))))))
theorem A__law_names_1 {r : List Sl} {h : List D} : L__law_names_1 ⟨r, h⟩ = (mF (eOp2 ixG (aVar 3) (mA (mF (eCall (fun ds h => F__law_next ds h) (fCons (eVar 0) (fCons (eC (.int 36)) fNil))))))) ⟨r, h⟩ := rfl
noncomputable def L__law_names_2 : S → Ou D := (mF (eOp2 addG (mA (eC (.str "q"))) (mA (mF (eOpN strG (aCons (aVar 8) aNil))))))
theorem A__law_names_2 {r : List Sl} {h : List D} : L__law_names_2 ⟨r, h⟩ = (mF (eOp2 addG (mA (eC (.str "q"))) (mA (mF (eOpN strG (aCons (aVar 8) aNil)))))) ⟨r, h⟩ := rfl
noncomputable def L__law_names_3 : S → Ou Bool := (mT (eOp2 (inG true) (aVar 9) (aVar 4)))
theorem A__law_names_3 {r : List Sl} {h : List D} : L__law_names_3 ⟨r, h⟩ = (mT (eOp2 (inG true) (aVar 9) (aVar 4))) ⟨r, h⟩ := rfl
noncomputable def L__law_names_4 : S → Ou D := (eVar 9)
theorem A__law_names_4 {r : List Sl} {h : List D} : L__law_names_4 ⟨r, h⟩ = (eVar 9) ⟨r, h⟩ := rfl
noncomputable def L__law_names_5 : S → Ou Bool := (mT (eOp2 ltG (mA (mF (eOpN lenG (aCons (aVar 4) aNil)))) (aVar 1)))
theorem A__law_names_5 {r : List Sl} {h : List D} : L__law_names_5 ⟨r, h⟩ = (mT (eOp2 ltG (mA (mF (eOpN lenG (aCons (aVar 4) aNil)))) (aVar 1))) ⟨r, h⟩ := rfl
noncomputable def L__law_names_6 : S → OutS := (sSeq (sSet 5 (eCall (fun ds h => F__law_next ds h) (fCons (eVar 0) (fCons (eC (.int 4)) fNil))))
  (sSeq (sSet 6 (eIf (mT (eOp2 eqG (aVar 5) (mA (eC (.int 0))))) (eOp2 ixG (aVar 2) (mA (mF (eCall (fun ds h => F__law_next ds h) (fCons (eVar 0) (fCons (eC (.int 15)) fNil)))))) (eOp2 addG (mA (eC (.str "r"))) (mA (mF (eOpN strG (aCons (mA (mF (eOpN lenG (aCons (aVar 4) aNil)))) aNil)))))))
  (sSeq (sIf (mT (eOp2 eqG (aVar 5) (mA (eC (.int 1)))))
  (sSet 6 (eMeth "str" joinG (mA (eC (.str ""))) (aCons (mA (mF (eLc (iRng1 (aCons (mA (mF (eOp2 addG (mA (eC (.int 1))) (mA (mF (eCall (fun ds h => F__law_next ds h) (fCons (eVar 0) (fCons (eC (.int 8)) fNil)))))))) aNil)) [8] (gtName 8) (eC true) L__law_names_1))) aNil)))
  sNil)
  (sSeq (sSet 7 (eOp2 addG (mA (mF (eLst (fCons (eVar 6) fNil)))) (mA (mF (eLc (iRng1 (aCons (mA (eC (.int 99))) aNil)) [8] (gtName 8) (eC true) L__law_names_2)))))
  (sExpr (eMut "list" appendG (aVar 4) (fCons (mF (eOp2 ixG (mA (mF (eLc (iSeq (aVar 7)) [9] (gtName 9) L__law_names_3 L__law_names_4))) (mA (eC (.int 0))))) fNil)))))))
theorem A__law_names_6 {r : List Sl} {h : List D} : L__law_names_6 ⟨r, h⟩ = (sSeq (sSet 5 (eCall (fun ds h => F__law_next ds h) (fCons (eVar 0) (fCons (eC (.int 4)) fNil))))
  (sSeq (sSet 6 (eIf (mT (eOp2 eqG (aVar 5) (mA (eC (.int 0))))) (eOp2 ixG (aVar 2) (mA (mF (eCall (fun ds h => F__law_next ds h) (fCons (eVar 0) (fCons (eC (.int 15)) fNil)))))) (eOp2 addG (mA (eC (.str "r"))) (mA (mF (eOpN strG (aCons (mA (mF (eOpN lenG (aCons (aVar 4) aNil)))) aNil)))))))
  (sSeq (sIf (mT (eOp2 eqG (aVar 5) (mA (eC (.int 1)))))
  (sSet 6 (eMeth "str" joinG (mA (eC (.str ""))) (aCons (mA (mF (eLc (iRng1 (aCons (mA (mF (eOp2 addG (mA (eC (.int 1))) (mA (mF (eCall (fun ds h => F__law_next ds h) (fCons (eVar 0) (fCons (eC (.int 8)) fNil)))))))) aNil)) [8] (gtName 8) (eC true) L__law_names_1))) aNil)))
  sNil)
  (sSeq (sSet 7 (eOp2 addG (mA (mF (eLst (fCons (eVar 6) fNil)))) (mA (mF (eLc (iRng1 (aCons (mA (eC (.int 99))) aNil)) [8] (gtName 8) (eC true) L__law_names_2)))))
  (sExpr (eMut "list" appendG (aVar 4) (fCons (mF (eOp2 ixG (mA (mF (eLc (iSeq (aVar 7)) [9] (gtName 9) L__law_names_3 L__law_names_4))) (mA (eC (.int 0))))) fNil))))))) ⟨r, h⟩ := rfl
noncomputable def B__law_names : S → OutS :=
  (sSeq (sSet 2 (eLst (fCons (eC (.str "road")) (fCons (eC (.str "ban")) (fCons (eC (.str "tile")) (fCons (eC (.str "way")) (fCons (eC (.str "none")) (fCons (eC (.str "lacks")) (fCons (eC (.str "undo")) (fCons (eC (.str "drop")) (fCons (eC (.str "free")) (fCons (eC (.str "closed")) (fCons (eC (.str "0")) (fCons (eC (.str "a")) (fCons (eC (.str "aa")) (fCons (eC (.str "a0")) (fCons (eC (.str "z")) fNil)))))))))))))))))
  (sSeq (sSet 3 (mV (eC (.str "abcdefghijklmnopqrstuvwxyz0123456789"))))
  (sSeq (sSet 4 (eLst fNil))
  (sSeq (sWhile L__law_names_5 L__law_names_6)
  (sRet (vVar 4))))))
noncomputable def F__law_names : List D → List D → OutF := hide (bodyF 10 B__law_names)
theorem E__law_names (ds h : List D) : F__law_names ds h = (B__law_names ⟨ds.map .fz ++ List.replicate (10 - ds.length) .un, h⟩).res := by rw [show F__law_names = bodyF 10 B__law_names from hide_eq _, bodyF_ap]
theorem sc__law_names : FnScope ["_law_draw", "_law_many", "_law_own", "_law_letters", "_law_found", "_law_sort", "_law_name", "_law_fresh", "_law_spot", "_law_one"] ["_law_draw", "_law_many"] (defScope st__law_names) := ⟨rfl, rfl, rfl, by decide +kernel, rfl, by decide +kernel, by decide +kernel⟩
theorem bp__law_names {f : Addr} {fd : FuncData} (F : Dfn K mg "_law_names" "_law_names" st__law_names [] f fd) : BdP K fd ["_law_draw", "_law_many"] 2 (fun ds => ds) := BdP.all F.fn fun _ _ _ _ _ _ us hl => match us, hl with | [_, _], _ => rfl
theorem fn__law_names {f : Addr} {fd : FuncData} (d : Dfn K mg "_law_names" "_law_names" st__law_names [] f fd) (B : Bt mg) (T : Txt w K mg) (c__law_next : Has P w K mg base 2 "_law_next" "_law_next" st__law_next [] ["_law_draw", "_law_size"] F__law_next) : FnG P w K mg base 3 f fd ["_law_draw", "_law_many"] (spD K mg (["_law_draw", "_law_many"] : List Str).length F__law_names) := by
  have nd := (sc__law_names).nd
  have h1 : ∀ (cdv : Value) (A : Around) (outer : List Env) (s : Shared) (H : Hp) (E : XK), A.guards = some [] → Room 2 (A.deeper (envOfC "_law_names" (defScope st__law_names) s.heap.objs.size f cdv)) → PSsD (cxOf (L2.CX P w) P w K mg base ["_law_draw", "_law_many", "_law_own", "_law_letters", "_law_found", "_law_sort", "_law_name", "_law_fresh", "_law_spot", "_law_one"] "_law_names" (defScope st__law_names) f cdv A outer s H E) (defBody st__law_names) B__law_names := by
    intro cdv A outer s H E hgd hr
    have hu : (A.deeper (envOfC "_law_names" (defScope st__law_names) s.heap.objs.size f cdv)).units + 64 < cLine := by have := hr.un; omega
    exact (PSsD.cons (sSetN 2 nd (xLst (fC PD.str (fC PD.str (fC PD.str (fC PD.str (fC PD.str (fC PD.str (fC PD.str (fC PD.str (fC PD.str (fC PD.str (fC PD.str (fC PD.str (fC PD.str (fC PD.str (fC PD.str f0)))))))))))))))))
  (PSsD.cons (sSetN 3 nd (fV PD.str))
  (PSsD.cons (sSetN 4 nd (xLst f0))
  (PSsD.cons (PSD.while (passes_of rfl) (tLt (fA (vF (cLen B (aC (nA 4) a0)))) (nA 1))
  (PSsD.cons (sSetN 5 nd (Has.call c__law_next hgd hr (fun _ _ => bp__law_next) (fC (nF 0) (fC PD.int f0))))
  (PSsD.cons (sSetN 6 nd (PD.ite (tEq hu (nA 5) (fA PD.int)) (xIx (nA 2) (fA (vF (Has.call c__law_next hgd hr (fun _ _ => bp__law_next) (fC (nF 0) (fC PD.int f0)))))) (oAdd (fA PD.str) (fA (vF (cStr B (aC (fA (vF (cLen B (aC (nA 4) a0)))) a0)))))))
  (PSsD.cons (PSD.ite (tEq hu (nA 5) (fA PD.int))
  (PSsD.one (sSetN 6 nd (mJoin (fA PD.str) (aC (fA (vF (lcW (g := (gName 8)) [("_law_spot", 8)] rfl nd (iRange B (aC (fA (vF (oAdd (fA PD.int) (fA (vF (Has.call c__law_next hgd hr (fun _ _ => bp__law_next) (fC (nF 0) (fC PD.int f0)))))))) a0)) (fun _ _ _ _ _ => (gN 8 nd)) (fun _ _ _ _ _ => PTsD.nil) (fun _ _ _ _ _ => (vF (xIx (nA 3) (fA (vF (Has.call c__law_next hgd hr (fun _ _ => bp__law_next) (fC (nF 0) (fC PD.int f0))))))))))) a0))))
  PSsD.nil)
  (PSsD.cons (sSetN 7 nd (oAdd (fA (vF (xLst (fC (nF 6) f0)))) (fA (vF (lcW (g := (gName 8)) [("_law_spot", 8)] rfl nd (iRange B (aC (fA PD.int) a0)) (fun _ _ _ _ _ => (gN 8 nd)) (fun _ _ _ _ _ => PTsD.nil) (fun _ _ _ _ _ => (vF (oAdd (fA PD.str) (fA (vF (cStr B (aC (nA 8) a0))))))))))))
  (PSsD.one (sExprN (mAppend (nA 4) (fC (vF (xIx (fA (vF (lcW (g := (gName 9)) [("_law_one", 9)] rfl nd (iSeqW (nA 7)) (fun _ _ _ _ _ => (gN 9 nd)) (fun _ _ _ _ _ => (PTsD.one (tNotIn (nA 9) (nA 4)))) (fun _ _ _ _ _ => (nF 9))))) (fA PD.int))) f0)))))))))
  (PSsD.one (PSD.ret (nV 4)))))))
  have h2 := Dfn.ok d sc__law_names h1
  have h3 : FnG P w K mg base 3 f fd ["_law_draw", "_law_many"] (spD K mg 2 (bodyF 10 B__law_names)) := h2
  have h4 : FnG P w K mg base 3 f fd ["_law_draw", "_law_many"] (spD K mg 2 F__law_names) := by rw [show F__law_names = bodyF 10 B__law_names from hide_eq _]; exact h3
  exact h4
theorem ok__law_names (hd : ∃ f fd, Dfn K mg "_law_names" "_law_names" st__law_names [] f fd) (B : Bt mg) (T : Txt w K mg) (c__law_next : Has P w K mg base 2 "_law_next" "_law_next" st__law_next [] ["_law_draw", "_law_size"] F__law_next) : Has P w K mg base 3 "_law_names" "_law_names" st__law_names [] ["_law_draw", "_law_many"] F__law_names := by
  obtain ⟨f, fd, d⟩ := hd
  exact ⟨⟨f, fd, d, fn__law_names d B T c__law_next⟩⟩
/-! _law_pick: names 0:_law_draw 1:_law_choices -/
noncomputable def B__law_pick : S → OutS :=
  (sRet (eOp2 ixG (aVar 1) (mA (mF (eCall (fun ds h => F__law_next ds h) (fCons (eVar 0) (fCons (mF (eOpN lenG (aCons (aVar 1) aNil))) fNil)))))))
noncomputable def F__law_pick : List D → List D → OutF := hide (bodyF 2 B__law_pick)
theorem E__law_pick (ds h : List D) : F__law_pick ds h = (B__law_pick ⟨ds.map .fz ++ List.replicate (2 - ds.length) .un, h⟩).res := by rw [show F__law_pick = bodyF 2 B__law_pick from hide_eq _, bodyF_ap]
theorem sc__law_pick : FnScope ["_law_draw", "_law_choices"] ["_law_draw", "_law_choices"] (defScope st__law_pick) := ⟨rfl, rfl, rfl, by decide +kernel, rfl, by decide +kernel, by decide +kernel⟩
theorem bp__law_pick {f : Addr} {fd : FuncData} (F : Dfn K mg "_law_pick" "_law_pick" st__law_pick [] f fd) : BdP K fd ["_law_draw", "_law_choices"] 2 (fun ds => ds) := BdP.all F.fn fun _ _ _ _ _ _ us hl => match us, hl with | [_, _], _ => rfl
theorem fn__law_pick {f : Addr} {fd : FuncData} (d : Dfn K mg "_law_pick" "_law_pick" st__law_pick [] f fd) (B : Bt mg) (T : Txt w K mg) (c__law_next : Has P w K mg base 2 "_law_next" "_law_next" st__law_next [] ["_law_draw", "_law_size"] F__law_next) : FnG P w K mg base 3 f fd ["_law_draw", "_law_choices"] (spD K mg (["_law_draw", "_law_choices"] : List Str).length F__law_pick) := by
  have nd := (sc__law_pick).nd
  have h1 : ∀ (cdv : Value) (A : Around) (outer : List Env) (s : Shared) (H : Hp) (E : XK), A.guards = some [] → Room 2 (A.deeper (envOfC "_law_pick" (defScope st__law_pick) s.heap.objs.size f cdv)) → PSsD (cxOf (L2.CX P w) P w K mg base ["_law_draw", "_law_choices"] "_law_pick" (defScope st__law_pick) f cdv A outer s H E) (defBody st__law_pick) B__law_pick := by
    intro cdv A outer s H E hgd hr
    have hu : (A.deeper (envOfC "_law_pick" (defScope st__law_pick) s.heap.objs.size f cdv)).units + 64 < cLine := by have := hr.un; omega
    exact (PSsD.one (PSD.ret (xIx (nA 1) (fA (vF (Has.call c__law_next hgd hr (fun _ _ => bp__law_next) (fC (nF 0) (fC (vF (cLen B (aC (nA 1) a0))) f0))))))))
  have h2 := Dfn.ok d sc__law_pick h1
  have h3 : FnG P w K mg base 3 f fd ["_law_draw", "_law_choices"] (spD K mg 2 (bodyF 2 B__law_pick)) := h2
  have h4 : FnG P w K mg base 3 f fd ["_law_draw", "_law_choices"] (spD K mg 2 F__law_pick) := by rw [show F__law_pick = bodyF 2 B__law_pick from hide_eq _]; exact h3
  exact h4
theorem ok__law_pick (hd : ∃ f fd, Dfn K mg "_law_pick" "_law_pick" st__law_pick [] f fd) (B : Bt mg) (T : Txt w K mg) (c__law_next : Has P w K mg base 2 "_law_next" "_law_next" st__law_next [] ["_law_draw", "_law_size"] F__law_next) : Has P w K mg base 3 "_law_pick" "_law_pick" st__law_pick [] ["_law_draw", "_law_choices"] F__law_pick := by
  obtain ⟨f, fd, d⟩ := hd
  exact ⟨⟨f, fd, d, fn__law_pick d B T c__law_next⟩⟩
/-! _law_places: names  -/
noncomputable def B__law_places : S → OutS :=
  (sRet (eLst (fCons (eC (.int 0)) (fCons (eC (.int 9)) (fCons (eC (.int 10)) (fCons (eC (.int 25)) (fCons (eC (.int 999)) (fCons (eC (.int 11)) fNil))))))))
noncomputable def F__law_places : List D → List D → OutF := hide (bodyF 0 B__law_places)
theorem E__law_places (ds h : List D) : F__law_places ds h = (B__law_places ⟨ds.map .fz ++ List.replicate (0 - ds.length) .un, h⟩).res := by rw [show F__law_places = bodyF 0 B__law_places from hide_eq _, bodyF_ap]
theorem sc__law_places : FnScope [] [] (defScope st__law_places) := ⟨rfl, rfl, rfl, by decide +kernel, rfl, by decide +kernel, by decide +kernel⟩
theorem bp__law_places {f : Addr} {fd : FuncData} (F : Dfn K mg "_law_places" "_law_places" st__law_places [] f fd) : BdP K fd [] 0 (fun ds => ds) := BdP.all F.fn fun _ _ _ _ _ _ us hl => match us, hl with | [], _ => rfl
theorem fn__law_places {f : Addr} {fd : FuncData} (d : Dfn K mg "_law_places" "_law_places" st__law_places [] f fd) (B : Bt mg) (T : Txt w K mg)  : FnG P w K mg base 1 f fd [] (spD K mg ([] : List Str).length F__law_places) := by
  have nd := (sc__law_places).nd
  have h1 : ∀ (cdv : Value) (A : Around) (outer : List Env) (s : Shared) (H : Hp) (E : XK), A.guards = some [] → Room 0 (A.deeper (envOfC "_law_places" (defScope st__law_places) s.heap.objs.size f cdv)) → PSsD (cxOf (L2.CX P w) P w K mg base [] "_law_places" (defScope st__law_places) f cdv A outer s H E) (defBody st__law_places) B__law_places := by
    intro cdv A outer s H E hgd hr
    have hu : (A.deeper (envOfC "_law_places" (defScope st__law_places) s.heap.objs.size f cdv)).units + 64 < cLine := by have := hr.un; omega
    exact (PSsD.one (PSD.ret (xLst (fC PD.int (fC PD.int (fC PD.int (fC PD.int (fC PD.int (fC PD.int f0)))))))))
  have h2 := Dfn.ok d sc__law_places h1
  have h3 : FnG P w K mg base 1 f fd [] (spD K mg 0 (bodyF 0 B__law_places)) := h2
  have h4 : FnG P w K mg base 1 f fd [] (spD K mg 0 F__law_places) := by rw [show F__law_places = bodyF 0 B__law_places from hide_eq _]; exact h3
  exact h4
theorem ok__law_places (hd : ∃ f fd, Dfn K mg "_law_places" "_law_places" st__law_places [] f fd) (B : Bt mg) (T : Txt w K mg)  : Has P w K mg base 1 "_law_places" "_law_places" st__law_places [] [] F__law_places := by
  obtain ⟨f, fd, d⟩ := hd
  exact ⟨⟨f, fd, d, fn__law_places d B T ⟩⟩
/-! _law_what: names 0:_law_draw 1:_law_names_here 2:_law_ahead 3:_law_sort 4:_law_at 5:_law_to 6:_law_one -/
noncomputable def B__law_what : S → OutS :=
  (sSeq (sSet 3 (eCall (fun ds h => F__law_next ds h) (fCons (eVar 0) (fCons (eC (.int 10)) fNil))))
  (sSeq (sIf (mT (eOp2 ltG (aVar 3) (mA (eC (.int 4)))))
  (sSeq (sSet 4 (eCall (fun ds h => F__law_next ds h) (fCons (eVar 0) (fCons (eC (.int 6)) fNil))))
  (sSeq (sSet 5 (eOp2 modG (mA (mF (eOp2 addG (mA (mF (eOp2 addG (aVar 4) (mA (eC (.int 1)))))) (mA (mF (eCall (fun ds h => F__law_next ds h) (fCons (eVar 0) (fCons (eC (.int 5)) fNil)))))))) (mA (eC (.int 6)))))
  (sRet (mV (eTup (fCons (eC (.str "road")) (fCons (mF (eCall (fun ds h => F__law_pick ds h) (fCons (eVar 0) (fCons (eVar 1) fNil)))) (fCons (mF (eOp2 ixG (mA (mF (eCall (fun ds h => F__law_places ds h) fNil))) (aVar 4))) (fCons (mF (eOp2 ixG (mA (mF (eCall (fun ds h => F__law_places ds h) fNil))) (aVar 5))) (fCons (mF (eOp2 addG (mA (eC (.int 1))) (mA (mF (eCall (fun ds h => F__law_next ds h) (fCons (eVar 0) (fCons (eC (.int 3)) fNil))))))) fNil))))))))))
  sNil)
  (sSeq (sIf (mT (eOp2 eqG (aVar 3) (mA (eC (.int 4)))))
  (sRet (mV (eTup (fCons (eC (.str "drop")) (fCons (mF (eCall (fun ds h => F__law_pick ds h) (fCons (eVar 0) (fCons (eVar 1) fNil)))) fNil)))))
  sNil)
  (sSeq (sIf (mT (eOp2 ltG (aVar 3) (mA (eC (.int 7)))))
  (sRet (mV (eTup (fCons (mF (eOp2 ixG (mA (mF (eLst (fCons (eC (.str "ban")) (fCons (eC (.str "free")) fNil))))) (mA (mF (eOp2 subG (aVar 3) (mA (eC (.int 5)))))))) (fCons (mF (eCall (fun ds h => F__law_pick ds h) (fCons (eVar 0) (fCons (eVar 1) fNil)))) (fCons (mF (eCall (fun ds h => F__law_pick ds h) (fCons (eVar 0) (fCons (eVar 1) fNil)))) fNil))))))
  sNil)
  (sSeq (sIf (tAnd (mT (eOp2 eqG (aVar 3) (mA (eC (.int 7))))) (mT (eOp2 neG (aVar 2) (mA (mF (eLst fNil))))))
  (sRet (mV (eTup (fCons (eC (.str "ban")) (fCons (mF (eCall (fun ds h => F__law_pick ds h) (fCons (eVar 0) (fCons (eVar 1) fNil)))) (fCons (mF (eCall (fun ds h => F__law_pick ds h) (fCons (eVar 0) (fCons (eVar 1) fNil)))) fNil))))))
  sNil)
  (sSeq (sIf (mT (eOp2 eqG (aVar 2) (mA (mF (eLst fNil)))))
  (sRet (mV (eTup (fCons (eC (.str "undo")) (fCons (mF (eCall (fun ds h => F__law_next ds h) (fCons (eVar 0) (fCons (eC (.int 4)) fNil)))) (fCons (eC (.str "a")) fNil))))))
  sNil)
  (sSeq (sSet 6 (eCall (fun ds h => F__law_pick ds h) (fCons (eVar 0) (fCons (eVar 2) fNil))))
  (sRet (mV (eTup (fCons (eC (.str "undo")) (fCons (mF (eOp2 ixG (aVar 6) (mA (eC (.int 0))))) (fCons (mF (eOp2 ixG (aVar 6) (mA (eC (.int 1))))) fNil)))))))))))))
noncomputable def F__law_what : List D → List D → OutF := hide (bodyF 7 B__law_what)
theorem E__law_what (ds h : List D) : F__law_what ds h = (B__law_what ⟨ds.map .fz ++ List.replicate (7 - ds.length) .un, h⟩).res := by rw [show F__law_what = bodyF 7 B__law_what from hide_eq _, bodyF_ap]
theorem sc__law_what : FnScope ["_law_draw", "_law_names_here", "_law_ahead", "_law_sort", "_law_at", "_law_to", "_law_one"] ["_law_draw", "_law_names_here", "_law_ahead"] (defScope st__law_what) := ⟨rfl, rfl, rfl, by decide +kernel, rfl, by decide +kernel, by decide +kernel⟩
theorem bp__law_what {f : Addr} {fd : FuncData} (F : Dfn K mg "_law_what" "_law_what" st__law_what [] f fd) : BdP K fd ["_law_draw", "_law_names_here", "_law_ahead"] 3 (fun ds => ds) := BdP.all F.fn fun _ _ _ _ _ _ us hl => match us, hl with | [_, _, _], _ => rfl
theorem fn__law_what {f : Addr} {fd : FuncData} (d : Dfn K mg "_law_what" "_law_what" st__law_what [] f fd) (B : Bt mg) (T : Txt w K mg) (c__law_next : Has P w K mg base 2 "_law_next" "_law_next" st__law_next [] ["_law_draw", "_law_size"] F__law_next) (c__law_pick : Has P w K mg base 3 "_law_pick" "_law_pick" st__law_pick [] ["_law_draw", "_law_choices"] F__law_pick) (c__law_places : Has P w K mg base 1 "_law_places" "_law_places" st__law_places [] [] F__law_places) : FnG P w K mg base 4 f fd ["_law_draw", "_law_names_here", "_law_ahead"] (spD K mg (["_law_draw", "_law_names_here", "_law_ahead"] : List Str).length F__law_what) := by
  have nd := (sc__law_what).nd
  have h1 : ∀ (cdv : Value) (A : Around) (outer : List Env) (s : Shared) (H : Hp) (E : XK), A.guards = some [] → Room 3 (A.deeper (envOfC "_law_what" (defScope st__law_what) s.heap.objs.size f cdv)) → PSsD (cxOf (L2.CX P w) P w K mg base ["_law_draw", "_law_names_here", "_law_ahead", "_law_sort", "_law_at", "_law_to", "_law_one"] "_law_what" (defScope st__law_what) f cdv A outer s H E) (defBody st__law_what) B__law_what := by
    intro cdv A outer s H E hgd hr
    have hu : (A.deeper (envOfC "_law_what" (defScope st__law_what) s.heap.objs.size f cdv)).units + 64 < cLine := by have := hr.un; omega
    exact (PSsD.cons (sSetN 3 nd (Has.call c__law_next hgd hr (fun _ _ => bp__law_next) (fC (nF 0) (fC PD.int f0))))
  (PSsD.cons (PSD.ite (tLt (nA 3) (fA PD.int))
  (PSsD.cons (sSetN 4 nd (Has.call c__law_next hgd hr (fun _ _ => bp__law_next) (fC (nF 0) (fC PD.int f0))))
  (PSsD.cons (sSetN 5 nd (oMod (fA (vF (oAdd (fA (vF (oAdd (nA 4) (fA PD.int)))) (fA (vF (Has.call c__law_next hgd hr (fun _ _ => bp__law_next) (fC (nF 0) (fC PD.int f0)))))))) (fA PD.int)))
  (PSsD.one (PSD.ret (fV (xTup (fC PD.str (fC (vF (Has.call c__law_pick hgd hr (fun _ _ => bp__law_pick) (fC (nF 0) (fC (nF 1) f0)))) (fC (vF (xIx (fA (vF (Has.call0 c__law_places hgd hr (fun _ _ => bp__law_places)))) (nA 4))) (fC (vF (xIx (fA (vF (Has.call0 c__law_places hgd hr (fun _ _ => bp__law_places)))) (nA 5))) (fC (vF (oAdd (fA PD.int) (fA (vF (Has.call c__law_next hgd hr (fun _ _ => bp__law_next) (fC (nF 0) (fC PD.int f0))))))) f0)))))))))))
  PSsD.nil)
  (PSsD.cons (PSD.ite (tEq hu (nA 3) (fA PD.int))
  (PSsD.one (PSD.ret (fV (xTup (fC PD.str (fC (vF (Has.call c__law_pick hgd hr (fun _ _ => bp__law_pick) (fC (nF 0) (fC (nF 1) f0)))) f0))))))
  PSsD.nil)
  (PSsD.cons (PSD.ite (tLt (nA 3) (fA PD.int))
  (PSsD.one (PSD.ret (fV (xTup (fC (vF (xIx (fA (vF (xLst (fC PD.str (fC PD.str f0))))) (fA (vF (oSub (nA 3) (fA PD.int)))))) (fC (vF (Has.call c__law_pick hgd hr (fun _ _ => bp__law_pick) (fC (nF 0) (fC (nF 1) f0)))) (fC (vF (Has.call c__law_pick hgd hr (fun _ _ => bp__law_pick) (fC (nF 0) (fC (nF 1) f0)))) f0)))))))
  PSsD.nil)
  (PSsD.cons (PSD.ite (PTD.of (PWD.and (tEq hu (nA 3) (fA PD.int)) (PWD.and1 (tNe hu (nA 2) (fA (vF (xLst f0)))))))
  (PSsD.one (PSD.ret (fV (xTup (fC PD.str (fC (vF (Has.call c__law_pick hgd hr (fun _ _ => bp__law_pick) (fC (nF 0) (fC (nF 1) f0)))) (fC (vF (Has.call c__law_pick hgd hr (fun _ _ => bp__law_pick) (fC (nF 0) (fC (nF 1) f0)))) f0)))))))
  PSsD.nil)
  (PSsD.cons (PSD.ite (tEq hu (nA 2) (fA (vF (xLst f0))))
  (PSsD.one (PSD.ret (fV (xTup (fC PD.str (fC (vF (Has.call c__law_next hgd hr (fun _ _ => bp__law_next) (fC (nF 0) (fC PD.int f0)))) (fC PD.str f0)))))))
  PSsD.nil)
  (PSsD.cons (sSetN 6 nd (Has.call c__law_pick hgd hr (fun _ _ => bp__law_pick) (fC (nF 0) (fC (nF 2) f0))))
  (PSsD.one (PSD.ret (fV (xTup (fC PD.str (fC (vF (xIx (nA 6) (fA PD.int))) (fC (vF (xIx (nA 6) (fA PD.int))) f0))))))))))))))
  have h2 := Dfn.ok d sc__law_what h1
  have h3 : FnG P w K mg base 4 f fd ["_law_draw", "_law_names_here", "_law_ahead"] (spD K mg 3 (bodyF 7 B__law_what)) := h2
  have h4 : FnG P w K mg base 4 f fd ["_law_draw", "_law_names_here", "_law_ahead"] (spD K mg 3 F__law_what) := by rw [show F__law_what = bodyF 7 B__law_what from hide_eq _]; exact h3
  exact h4
theorem ok__law_what (hd : ∃ f fd, Dfn K mg "_law_what" "_law_what" st__law_what [] f fd) (B : Bt mg) (T : Txt w K mg) (c__law_next : Has P w K mg base 2 "_law_next" "_law_next" st__law_next [] ["_law_draw", "_law_size"] F__law_next) (c__law_pick : Has P w K mg base 3 "_law_pick" "_law_pick" st__law_pick [] ["_law_draw", "_law_choices"] F__law_pick) (c__law_places : Has P w K mg base 1 "_law_places" "_law_places" st__law_places [] [] F__law_places) : Has P w K mg base 4 "_law_what" "_law_what" st__law_what [] ["_law_draw", "_law_names_here", "_law_ahead"] F__law_what := by
  obtain ⟨f, fd, d⟩ := hd
  exact ⟨⟨f, fd, d, fn__law_what d B T c__law_next c__law_pick c__law_places⟩⟩
/-! _law_edits: names 0:_law_draw 1:_law_many 2:_law_names_here 3:_law_hands 4:_law_found 5:_law_turn 6:_law_what_here 7:_law_stamp; shared: _law_found -/
noncomputable def L__law_edits_1 : S → OutS := (sSeq (sSet 6 (eCall (fun ds h => F__law_what ds h) (fCons (eVar 0) (fCons (eVar 2) (fCons (eVar 4) fNil)))))
  (sSeq (sSet 7 (eOp2 ixG (mA (mF (eLst (fCons (mF (eCall (fun ds h => F__law_next ds h) (fCons (eVar 0) (fCons (eC (.int 6)) fNil)))) (fCons (mF (eOp2 subG (mA (mF (eOp2 powG (mA (eC (.int 10))) (mA (eC (.int 6)))))) (mA (mF (eCall (fun ds h => F__law_next ds h) (fCons (eVar 0) (fCons (eC (.int 3)) fNil))))))) (fCons (mF (eOpN lenG (aCons (aVar 4) aNil))) fNil)))))) (mA (mF (eCall (fun ds h => F__law_next ds h) (fCons (eVar 0) (fCons (eC (.int 3)) fNil)))))))
  (sSeq (sIf (tAnd (mT (eOp2 eqG (mA (mF (eOp2 ixG (aVar 6) (mA (eC (.int 0)))))) (mA (eC (.str "undo"))))) (mT (eOp2 gtG (mA (mF (eCall (fun ds h => F__law_next ds h) (fCons (eVar 0) (fCons (eC (.int 3)) fNil))))) (mA (eC (.int 0))))))
  (sSet 7 (eOpN minG (aCons (mA (mF (eOp2 powG (mA (eC (.int 10))) (mA (eC (.int 6)))))) (aCons (mA (mF (eOp2 addG (mA (mF (eOp2 ixG (aVar 6) (mA (eC (.int 1)))))) (mA (mF (eCall (fun ds h => F__law_next ds h) (fCons (eVar 0) (fCons (eC (.int 3)) fNil)))))))) aNil))))
  sNil)
  (sSeq (sExpr (eMut "list" appendG (aVar 4) (fCons (eTup (fCons (eVar 7) (fCons (mF (eCall (fun ds h => F__law_pick ds h) (fCons (eVar 0) (fCons (eVar 3) fNil)))) (fCons (eVar 6) fNil)))) fNil)))
  (sIf (mT (eOp2 eqG (mA (mF (eCall (fun ds h => F__law_next ds h) (fCons (eVar 0) (fCons (eC (.int 8)) fNil))))) (mA (eC (.int 0)))))
  (sExpr (eMut "list" appendG (aVar 4) (fCons (mF (eCall (fun ds h => F__law_pick ds h) (fCons (eVar 0) (fCons (eVar 4) fNil)))) fNil)))
  sNil)))))
theorem A__law_edits_1 {r : List Sl} {h : List D} : L__law_edits_1 ⟨r, h⟩ = (sSeq (sSet 6 (eCall (fun ds h => F__law_what ds h) (fCons (eVar 0) (fCons (eVar 2) (fCons (eVar 4) fNil)))))
  (sSeq (sSet 7 (eOp2 ixG (mA (mF (eLst (fCons (mF (eCall (fun ds h => F__law_next ds h) (fCons (eVar 0) (fCons (eC (.int 6)) fNil)))) (fCons (mF (eOp2 subG (mA (mF (eOp2 powG (mA (eC (.int 10))) (mA (eC (.int 6)))))) (mA (mF (eCall (fun ds h => F__law_next ds h) (fCons (eVar 0) (fCons (eC (.int 3)) fNil))))))) (fCons (mF (eOpN lenG (aCons (aVar 4) aNil))) fNil)))))) (mA (mF (eCall (fun ds h => F__law_next ds h) (fCons (eVar 0) (fCons (eC (.int 3)) fNil)))))))
  (sSeq (sIf (tAnd (mT (eOp2 eqG (mA (mF (eOp2 ixG (aVar 6) (mA (eC (.int 0)))))) (mA (eC (.str "undo"))))) (mT (eOp2 gtG (mA (mF (eCall (fun ds h => F__law_next ds h) (fCons (eVar 0) (fCons (eC (.int 3)) fNil))))) (mA (eC (.int 0))))))
  (sSet 7 (eOpN minG (aCons (mA (mF (eOp2 powG (mA (eC (.int 10))) (mA (eC (.int 6)))))) (aCons (mA (mF (eOp2 addG (mA (mF (eOp2 ixG (aVar 6) (mA (eC (.int 1)))))) (mA (mF (eCall (fun ds h => F__law_next ds h) (fCons (eVar 0) (fCons (eC (.int 3)) fNil)))))))) aNil))))
  sNil)
  (sSeq (sExpr (eMut "list" appendG (aVar 4) (fCons (eTup (fCons (eVar 7) (fCons (mF (eCall (fun ds h => F__law_pick ds h) (fCons (eVar 0) (fCons (eVar 3) fNil)))) (fCons (eVar 6) fNil)))) fNil)))
  (sIf (mT (eOp2 eqG (mA (mF (eCall (fun ds h => F__law_next ds h) (fCons (eVar 0) (fCons (eC (.int 8)) fNil))))) (mA (eC (.int 0)))))
  (sExpr (eMut "list" appendG (aVar 4) (fCons (mF (eCall (fun ds h => F__law_pick ds h) (fCons (eVar 0) (fCons (eVar 4) fNil)))) fNil)))
  sNil))))) ⟨r, h⟩ := rfl
noncomputable def B__law_edits : S → OutS :=
  (sSeq (sPar [2, 3, 4] (vCons (eCall (fun ds h => F__law_names ds h) (fCons (eVar 0) (fCons (eC (.int 5)) fNil))) (vCons (eCall (fun ds h => F__law_names ds h) (fCons (eVar 0) (fCons (eC (.int 3)) fNil))) (vCons (mV (mH (eLst fNil))) vNil))))
  (sSeq (sFor (iRng1 (aCons (aVar 1) aNil)) (gtName 5) L__law_edits_1)
  (sRet (mV (eVar 4)))))
noncomputable def F__law_edits : List D → List D → OutF := hide (bodyF 8 B__law_edits)
theorem E__law_edits (ds h : List D) : F__law_edits ds h = (B__law_edits ⟨ds.map .fz ++ List.replicate (8 - ds.length) .un, h⟩).res := by rw [show F__law_edits = bodyF 8 B__law_edits from hide_eq _, bodyF_ap]
theorem sc__law_edits : FnScope ["_law_draw", "_law_many", "_law_names_here", "_law_hands", "_law_found", "_law_turn", "_law_what_here", "_law_stamp"] ["_law_draw", "_law_many"] (defScope st__law_edits) := ⟨rfl, rfl, rfl, by decide +kernel, rfl, by decide +kernel, by decide +kernel⟩
theorem bp__law_edits {f : Addr} {fd : FuncData} (F : Dfn K mg "_law_edits" "_law_edits" st__law_edits [] f fd) : BdP K fd ["_law_draw", "_law_many"] 2 (fun ds => ds) := BdP.all F.fn fun _ _ _ _ _ _ us hl => match us, hl with | [_, _], _ => rfl
theorem fn__law_edits {f : Addr} {fd : FuncData} (d : Dfn K mg "_law_edits" "_law_edits" st__law_edits [] f fd) (B : Bt mg) (T : Txt w K mg) (c__law_next : Has P w K mg base 2 "_law_next" "_law_next" st__law_next [] ["_law_draw", "_law_size"] F__law_next) (c__law_names : Has P w K mg base 3 "_law_names" "_law_names" st__law_names [] ["_law_draw", "_law_many"] F__law_names) (c__law_pick : Has P w K mg base 3 "_law_pick" "_law_pick" st__law_pick [] ["_law_draw", "_law_choices"] F__law_pick) (c__law_what : Has P w K mg base 4 "_law_what" "_law_what" st__law_what [] ["_law_draw", "_law_names_here", "_law_ahead"] F__law_what) : FnG P w K mg base 5 f fd ["_law_draw", "_law_many"] (spD K mg (["_law_draw", "_law_many"] : List Str).length F__law_edits) := by
  have nd := (sc__law_edits).nd
  have h1 : ∀ (cdv : Value) (A : Around) (outer : List Env) (s : Shared) (H : Hp) (E : XK), A.guards = some [] → Room 4 (A.deeper (envOfC "_law_edits" (defScope st__law_edits) s.heap.objs.size f cdv)) → PSsD (cxOf (L2.CX P w) P w K mg base ["_law_draw", "_law_many", "_law_names_here", "_law_hands", "_law_found", "_law_turn", "_law_what_here", "_law_stamp"] "_law_edits" (defScope st__law_edits) f cdv A outer s H E) (defBody st__law_edits) B__law_edits := by
    intro cdv A outer s H E hgd hr
    have hu : (A.deeper (envOfC "_law_edits" (defScope st__law_edits) s.heap.objs.size f cdv)).units + 64 < cLine := by have := hr.un; omega
    exact (PSsD.cons (sPar3 2 3 4 rfl nd (vC (Has.call c__law_names hgd hr (fun _ _ => bp__law_names) (fC (nF 0) (fC PD.int f0))) (vC (Has.call c__law_names hgd hr (fun _ _ => bp__law_names) (fC (nF 0) (fC PD.int f0))) (vC (fV (PD.hpz (xLst f0))) v0))) (vCons_len (vCons_len (vCons_len vNil_len))))
  (PSsD.cons (sForN (passes_of rfl) rfl (iRange B (aC (nA 1) a0)) (gN 5 nd)
  (PSsD.cons (sSetN 6 nd (Has.call c__law_what hgd hr (fun _ _ => bp__law_what) (fC (nF 0) (fC (nF 2) (fC (nF 4) f0)))))
  (PSsD.cons (sSetN 7 nd (xIx (fA (vF (xLst (fC (vF (Has.call c__law_next hgd hr (fun _ _ => bp__law_next) (fC (nF 0) (fC PD.int f0)))) (fC (vF (oSub (fA (vF (oPow (fA PD.int) (fA PD.int)))) (fA (vF (Has.call c__law_next hgd hr (fun _ _ => bp__law_next) (fC (nF 0) (fC PD.int f0))))))) (fC (vF (cLen B (aC (nA 4) a0))) f0)))))) (fA (vF (Has.call c__law_next hgd hr (fun _ _ => bp__law_next) (fC (nF 0) (fC PD.int f0)))))))
  (PSsD.cons (PSD.ite (PTD.of (PWD.and (tEq hu (fA (vF (xIx (nA 6) (fA PD.int)))) (fA PD.str)) (PWD.and1 (tGt (fA (vF (Has.call c__law_next hgd hr (fun _ _ => bp__law_next) (fC (nF 0) (fC PD.int f0))))) (fA PD.int)))))
  (PSsD.one (sSetN 7 nd (cMin B rfl (aC (fA (vF (oPow (fA PD.int) (fA PD.int)))) (aC (fA (vF (oAdd (fA (vF (xIx (nA 6) (fA PD.int)))) (fA (vF (Has.call c__law_next hgd hr (fun _ _ => bp__law_next) (fC (nF 0) (fC PD.int f0)))))))) a0)))))
  PSsD.nil)
  (PSsD.cons (sExprN (mAppend (nA 4) (fC (xTup (fC (nF 7) (fC (vF (Has.call c__law_pick hgd hr (fun _ _ => bp__law_pick) (fC (nF 0) (fC (nF 3) f0)))) (fC (nF 6) f0)))) f0)))
  (PSsD.one (PSD.ite (tEq hu (fA (vF (Has.call c__law_next hgd hr (fun _ _ => bp__law_next) (fC (nF 0) (fC PD.int f0))))) (fA PD.int))
  (PSsD.one (sExprN (mAppend (nA 4) (fC (vF (Has.call c__law_pick hgd hr (fun _ _ => bp__law_pick) (fC (nF 0) (fC (nF 4) f0)))) f0))))
  PSsD.nil)))))))
  (PSsD.one (PSD.ret (fV (nF 4))))))
  have h2 := Dfn.ok d sc__law_edits h1
  have h3 : FnG P w K mg base 5 f fd ["_law_draw", "_law_many"] (spD K mg 2 (bodyF 8 B__law_edits)) := h2
  have h4 : FnG P w K mg base 5 f fd ["_law_draw", "_law_many"] (spD K mg 2 F__law_edits) := by rw [show F__law_edits = bodyF 8 B__law_edits from hide_eq _]; exact h3
  exact h4
theorem ok__law_edits (hd : ∃ f fd, Dfn K mg "_law_edits" "_law_edits" st__law_edits [] f fd) (B : Bt mg) (T : Txt w K mg) (c__law_next : Has P w K mg base 2 "_law_next" "_law_next" st__law_next [] ["_law_draw", "_law_size"] F__law_next) (c__law_names : Has P w K mg base 3 "_law_names" "_law_names" st__law_names [] ["_law_draw", "_law_many"] F__law_names) (c__law_pick : Has P w K mg base 3 "_law_pick" "_law_pick" st__law_pick [] ["_law_draw", "_law_choices"] F__law_pick) (c__law_what : Has P w K mg base 4 "_law_what" "_law_what" st__law_what [] ["_law_draw", "_law_names_here", "_law_ahead"] F__law_what) : Has P w K mg base 5 "_law_edits" "_law_edits" st__law_edits [] ["_law_draw", "_law_many"] F__law_edits := by
  obtain ⟨f, fd, d⟩ := hd
  exact ⟨⟨f, fd, d, fn__law_edits d B T c__law_next c__law_names c__law_pick c__law_what⟩⟩
/-! _law_figures: names 0:_law_word 1:_law_count 2:_law_sign -/
noncomputable def L__law_figures_1 : S → Ou Bool := (mT (eOp2 (inG true) (aVar 2) (mA (eC (.str "0123456789")))))
theorem A__law_figures_1 {r : List Sl} {h : List D} : L__law_figures_1 ⟨r, h⟩ = (mT (eOp2 (inG true) (aVar 2) (mA (eC (.str "0123456789"))))) ⟨r, h⟩ := rfl
noncomputable def L__law_figures_2 : S → Ou D := (eVar 2)
theorem A__law_figures_2 {r : List Sl} {h : List D} : L__law_figures_2 ⟨r, h⟩ = (eVar 2) ⟨r, h⟩ := rfl
noncomputable def B__law_figures : S → OutS :=
  (sSeq (sIf (tOr (mT (eOp2 eqG (aVar 0) (mA (eC (.str ""))))) (tOr (mT (eOp2 gtG (mA (mF (eOpN lenG (aCons (aVar 0) aNil)))) (aVar 1))) (mT (eOp2 neG (mA (mF (eLc (iStr (aVar 0)) [2] (gtName 2) L__law_figures_1 L__law_figures_2))) (mA (mF (eLst fNil)))))))
  (sRet (mV (eC (.bl false))))
  sNil)
  (sRet (eOr (mT (eOp2 eqG (aVar 0) (mA (eC (.str "0"))))) (eOp2 neG (mA (mF (eOp2 ixG (aVar 0) (mA (eC (.int 0)))))) (mA (eC (.str "0")))))))
noncomputable def F__law_figures : List D → List D → OutF := hide (bodyF 3 B__law_figures)
theorem E__law_figures (ds h : List D) : F__law_figures ds h = (B__law_figures ⟨ds.map .fz ++ List.replicate (3 - ds.length) .un, h⟩).res := by rw [show F__law_figures = bodyF 3 B__law_figures from hide_eq _, bodyF_ap]
theorem sc__law_figures : FnScope ["_law_word", "_law_count", "_law_sign"] ["_law_word", "_law_count"] (defScope st__law_figures) := ⟨rfl, rfl, rfl, by decide +kernel, rfl, by decide +kernel, by decide +kernel⟩
theorem bp__law_figures {f : Addr} {fd : FuncData} (F : Dfn K mg "_law_figures" "_law_figures" st__law_figures [] f fd) : BdP K fd ["_law_word", "_law_count"] 2 (fun ds => ds) := BdP.all F.fn fun _ _ _ _ _ _ us hl => match us, hl with | [_, _], _ => rfl
theorem fn__law_figures {f : Addr} {fd : FuncData} (d : Dfn K mg "_law_figures" "_law_figures" st__law_figures [] f fd) (B : Bt mg) (T : Txt w K mg)  : FnG P w K mg base 1 f fd ["_law_word", "_law_count"] (spD K mg (["_law_word", "_law_count"] : List Str).length F__law_figures) := by
  have nd := (sc__law_figures).nd
  have h1 : ∀ (cdv : Value) (A : Around) (outer : List Env) (s : Shared) (H : Hp) (E : XK), A.guards = some [] → Room 0 (A.deeper (envOfC "_law_figures" (defScope st__law_figures) s.heap.objs.size f cdv)) → PSsD (cxOf (L2.CX P w) P w K mg base ["_law_word", "_law_count", "_law_sign"] "_law_figures" (defScope st__law_figures) f cdv A outer s H E) (defBody st__law_figures) B__law_figures := by
    intro cdv A outer s H E hgd hr
    have hu : (A.deeper (envOfC "_law_figures" (defScope st__law_figures) s.heap.objs.size f cdv)).units + 64 < cLine := by have := hr.un; omega
    exact (PSsD.cons (PSD.ite (PTD.of (PWD.or (tEq hu (nA 0) (fA PD.str)) (PWD.or (tGt (fA (vF (cLen B (aC (nA 0) a0)))) (nA 1)) (PWD.or1 (tNe hu (fA (vF (lcW (g := (gName 2)) [("_law_sign", 2)] rfl nd (iStrW (nA 0)) (fun _ _ _ _ _ => (gN 2 nd)) (fun _ _ _ _ _ => (PTsD.one (tNotIn (nA 2) (fA PD.str)))) (fun _ _ _ _ _ => (nF 2))))) (fA (vF (xLst f0))))))))
  (PSsD.one (PSD.ret (fV PD.bl)))
  PSsD.nil)
  (PSsD.one (PSD.ret (PD.or (oEq hu (nA 0) (fA PD.str)) (PD.and1 (oNe hu (fA (vF (xIx (nA 0) (fA PD.int)))) (fA PD.str)))))))
  have h2 := Dfn.ok d sc__law_figures h1
  have h3 : FnG P w K mg base 1 f fd ["_law_word", "_law_count"] (spD K mg 2 (bodyF 3 B__law_figures)) := h2
  have h4 : FnG P w K mg base 1 f fd ["_law_word", "_law_count"] (spD K mg 2 F__law_figures) := by rw [show F__law_figures = bodyF 3 B__law_figures from hide_eq _]; exact h3
  exact h4
theorem ok__law_figures (hd : ∃ f fd, Dfn K mg "_law_figures" "_law_figures" st__law_figures [] f fd) (B : Bt mg) (T : Txt w K mg)  : Has P w K mg base 1 "_law_figures" "_law_figures" st__law_figures [] ["_law_word", "_law_count"] F__law_figures := by
  obtain ⟨f, fd, d⟩ := hd
  exact ⟨⟨f, fd, d, fn__law_figures d B T ⟩⟩
/-! _law_name_is: names 0:_law_word 1:_law_sign -/
noncomputable def L__law_name_is_1 : S → Ou Bool := (mT (eOp2 (inG true) (aVar 1) (mA (eC (.str "abcdefghijklmnopqrstuvwxyz0123456789")))))
theorem A__law_name_is_1 {r : List Sl} {h : List D} : L__law_name_is_1 ⟨r, h⟩ = (mT (eOp2 (inG true) (aVar 1) (mA (eC (.str "abcdefghijklmnopqrstuvwxyz0123456789"))))) ⟨r, h⟩ := rfl
noncomputable def L__law_name_is_2 : S → Ou D := (eVar 1)
theorem A__law_name_is_2 {r : List Sl} {h : List D} : L__law_name_is_2 ⟨r, h⟩ = (eVar 1) ⟨r, h⟩ := rfl
noncomputable def B__law_name_is : S → OutS :=
  (sSeq (sIf (tNot (mT (eChain leG leG (mA (eC (.int 1))) (mA (mF (eOpN lenG (aCons (aVar 0) aNil)))) (mA (eC (.int 8))))))
  (sRet (mV (eC (.bl false))))
  sNil)
  (sRet (eOp2 eqG (mA (mF (eLc (iStr (aVar 0)) [1] (gtName 1) L__law_name_is_1 L__law_name_is_2))) (mA (mF (eLst fNil))))))
noncomputable def F__law_name_is : List D → List D → OutF := hide (bodyF 2 B__law_name_is)
theorem E__law_name_is (ds h : List D) : F__law_name_is ds h = (B__law_name_is ⟨ds.map .fz ++ List.replicate (2 - ds.length) .un, h⟩).res := by rw [show F__law_name_is = bodyF 2 B__law_name_is from hide_eq _, bodyF_ap]
theorem sc__law_name_is : FnScope ["_law_word", "_law_sign"] ["_law_word"] (defScope st__law_name_is) := ⟨rfl, rfl, rfl, by decide +kernel, rfl, by decide +kernel, by decide +kernel⟩
theorem bp__law_name_is {f : Addr} {fd : FuncData} (F : Dfn K mg "_law_name_is" "_law_name_is" st__law_name_is [] f fd) : BdP K fd ["_law_word"] 1 (fun ds => ds) := BdP.all F.fn fun _ _ _ _ _ _ us hl => match us, hl with | [_], _ => rfl
theorem fn__law_name_is {f : Addr} {fd : FuncData} (d : Dfn K mg "_law_name_is" "_law_name_is" st__law_name_is [] f fd) (B : Bt mg) (T : Txt w K mg)  : FnG P w K mg base 1 f fd ["_law_word"] (spD K mg (["_law_word"] : List Str).length F__law_name_is) := by
  have nd := (sc__law_name_is).nd
  have h1 : ∀ (cdv : Value) (A : Around) (outer : List Env) (s : Shared) (H : Hp) (E : XK), A.guards = some [] → Room 0 (A.deeper (envOfC "_law_name_is" (defScope st__law_name_is) s.heap.objs.size f cdv)) → PSsD (cxOf (L2.CX P w) P w K mg base ["_law_word", "_law_sign"] "_law_name_is" (defScope st__law_name_is) f cdv A outer s H E) (defBody st__law_name_is) B__law_name_is := by
    intro cdv A outer s H E hgd hr
    have hu : (A.deeper (envOfC "_law_name_is" (defScope st__law_name_is) s.heap.objs.size f cdv)).units + 64 < cLine := by have := hr.un; omega
    exact (PSsD.cons (PSD.ite (PTD.not (tLeLe (fA PD.int) (fA (vF (cLen B (aC (nA 0) a0)))) (fA PD.int)))
  (PSsD.one (PSD.ret (fV PD.bl)))
  PSsD.nil)
  (PSsD.one (PSD.ret (oEq hu (fA (vF (lcW (g := (gName 1)) [("_law_sign", 1)] rfl nd (iStrW (nA 0)) (fun _ _ _ _ _ => (gN 1 nd)) (fun _ _ _ _ _ => (PTsD.one (tNotIn (nA 1) (fA PD.str)))) (fun _ _ _ _ _ => (nF 1))))) (fA (vF (xLst f0)))))))
  have h2 := Dfn.ok d sc__law_name_is h1
  have h3 : FnG P w K mg base 1 f fd ["_law_word"] (spD K mg 1 (bodyF 2 B__law_name_is)) := h2
  have h4 : FnG P w K mg base 1 f fd ["_law_word"] (spD K mg 1 F__law_name_is) := by rw [show F__law_name_is = bodyF 2 B__law_name_is from hide_eq _]; exact h3
  exact h4
theorem ok__law_name_is (hd : ∃ f fd, Dfn K mg "_law_name_is" "_law_name_is" st__law_name_is [] f fd) (B : Bt mg) (T : Txt w K mg)  : Has P w K mg base 1 "_law_name_is" "_law_name_is" st__law_name_is [] ["_law_word"] F__law_name_is := by
  obtain ⟨f, fd, d⟩ := hd
  exact ⟨⟨f, fd, d, fn__law_name_is d B T ⟩⟩
/-! _law_words: names 0:_law_form 1:_law_words_here 2:_law_count 3:_law_found 4:_law_sign 5:_law_word -/
noncomputable def L__law_words_1 : S → OutS := (sSeq (sIf (tNot (eIf (mT (eOp2 eqG (aVar 4) (mA (eC (.str "d"))))) (mT (eCall (fun ds h => F__law_figures ds h) (fCons (eVar 5) (fCons (eVar 2) fNil)))) (mT (eCall (fun ds h => F__law_name_is ds h) (fCons (eVar 5) fNil)))))
  (sRet (mV (eC (.non))))
  sNil)
  (sExpr (eMut "list" appendG (aVar 3) (fCons (eIf (mT (eOp2 eqG (aVar 4) (mA (eC (.str "d"))))) (mF (eOpN intG1 (aCons (aVar 5) aNil))) (eVar 5)) fNil))))
theorem A__law_words_1 {r : List Sl} {h : List D} : L__law_words_1 ⟨r, h⟩ = (sSeq (sIf (tNot (eIf (mT (eOp2 eqG (aVar 4) (mA (eC (.str "d"))))) (mT (eCall (fun ds h => F__law_figures ds h) (fCons (eVar 5) (fCons (eVar 2) fNil)))) (mT (eCall (fun ds h => F__law_name_is ds h) (fCons (eVar 5) fNil)))))
  (sRet (mV (eC (.non))))
  sNil)
  (sExpr (eMut "list" appendG (aVar 3) (fCons (eIf (mT (eOp2 eqG (aVar 4) (mA (eC (.str "d"))))) (mF (eOpN intG1 (aCons (aVar 5) aNil))) (eVar 5)) fNil)))) ⟨r, h⟩ := rfl
noncomputable def B__law_words : S → OutS :=
  (sSeq (sIf (mT (eOp2 neG (mA (mF (eOpN lenG (aCons (aVar 0) aNil)))) (mA (mF (eOpN lenG (aCons (aVar 1) aNil))))))
  (sRet (mV (eC (.non))))
  sNil)
  (sSeq (sSet 3 (eLst fNil))
  (sSeq (sFor (iZip (fCons (eVar 0) (fCons (eVar 1) fNil))) (gtTup 2 (gtCons (gtName 4) (gtCons (gtName 5) gtNil))) L__law_words_1)
  (sRet (eOpN tupleG (aCons (aVar 3) aNil))))))
noncomputable def F__law_words : List D → List D → OutF := hide (bodyF 6 B__law_words)
theorem E__law_words (ds h : List D) : F__law_words ds h = (B__law_words ⟨ds.map .fz ++ List.replicate (6 - ds.length) .un, h⟩).res := by rw [show F__law_words = bodyF 6 B__law_words from hide_eq _, bodyF_ap]
theorem sc__law_words : FnScope ["_law_form", "_law_words_here", "_law_count", "_law_found", "_law_sign", "_law_word"] ["_law_form", "_law_words_here", "_law_count"] (defScope st__law_words) := ⟨rfl, rfl, rfl, by decide +kernel, rfl, by decide +kernel, by decide +kernel⟩
theorem bp__law_words {f : Addr} {fd : FuncData} (F : Dfn K mg "_law_words" "_law_words" st__law_words [] f fd) : BdP K fd ["_law_form", "_law_words_here", "_law_count"] 3 (fun ds => ds) := BdP.all F.fn fun _ _ _ _ _ _ us hl => match us, hl with | [_, _, _], _ => rfl
theorem fn__law_words {f : Addr} {fd : FuncData} (d : Dfn K mg "_law_words" "_law_words" st__law_words [] f fd) (B : Bt mg) (T : Txt w K mg) (c__law_figures : Has P w K mg base 1 "_law_figures" "_law_figures" st__law_figures [] ["_law_word", "_law_count"] F__law_figures) (c__law_name_is : Has P w K mg base 1 "_law_name_is" "_law_name_is" st__law_name_is [] ["_law_word"] F__law_name_is) : FnG P w K mg base 2 f fd ["_law_form", "_law_words_here", "_law_count"] (spD K mg (["_law_form", "_law_words_here", "_law_count"] : List Str).length F__law_words) := by
  have nd := (sc__law_words).nd
  have h1 : ∀ (cdv : Value) (A : Around) (outer : List Env) (s : Shared) (H : Hp) (E : XK), A.guards = some [] → Room 1 (A.deeper (envOfC "_law_words" (defScope st__law_words) s.heap.objs.size f cdv)) → PSsD (cxOf (L2.CX P w) P w K mg base ["_law_form", "_law_words_here", "_law_count", "_law_found", "_law_sign", "_law_word"] "_law_words" (defScope st__law_words) f cdv A outer s H E) (defBody st__law_words) B__law_words := by
    intro cdv A outer s H E hgd hr
    have hu : (A.deeper (envOfC "_law_words" (defScope st__law_words) s.heap.objs.size f cdv)).units + 64 < cLine := by have := hr.un; omega
    exact (PSsD.cons (PSD.ite (tNe hu (fA (vF (cLen B (aC (nA 0) a0)))) (fA (vF (cLen B (aC (nA 1) a0)))))
  (PSsD.one (PSD.ret (fV PD.non)))
  PSsD.nil)
  (PSsD.cons (sSetN 3 nd (xLst f0))
  (PSsD.cons (sForN (passes_of rfl) rfl (iZipW B (fC (nF 0) (fC (nF 1) f0))) (gT rfl (gC (gN 4 nd) (gC (gN 5 nd) PGsD.nil)))
  (PSsD.cons (PSD.ite (PTD.not (PTD.ifx (tEq hu (nA 4) (fA PD.str)) (tVal (Has.call c__law_figures hgd hr (fun _ _ => bp__law_figures) (fC (nF 5) (fC (nF 2) f0)))) (tVal (Has.call c__law_name_is hgd hr (fun _ _ => bp__law_name_is) (fC (nF 5) f0)))))
  (PSsD.one (PSD.ret (fV PD.non)))
  PSsD.nil)
  (PSsD.one (sExprN (mAppend (nA 3) (fC (PD.ite (tEq hu (nA 4) (fA PD.str)) (vF (cInt B (aC (nA 5) a0))) (nF 5)) f0))))))
  (PSsD.one (PSD.ret (cTuple B (aC (nA 3) a0)))))))
  have h2 := Dfn.ok d sc__law_words h1
  have h3 : FnG P w K mg base 2 f fd ["_law_form", "_law_words_here", "_law_count"] (spD K mg 3 (bodyF 6 B__law_words)) := h2
  have h4 : FnG P w K mg base 2 f fd ["_law_form", "_law_words_here", "_law_count"] (spD K mg 3 F__law_words) := by rw [show F__law_words = bodyF 6 B__law_words from hide_eq _]; exact h3
  exact h4
theorem ok__law_words (hd : ∃ f fd, Dfn K mg "_law_words" "_law_words" st__law_words [] f fd) (B : Bt mg) (T : Txt w K mg) (c__law_figures : Has P w K mg base 1 "_law_figures" "_law_figures" st__law_figures [] ["_law_word", "_law_count"] F__law_figures) (c__law_name_is : Has P w K mg base 1 "_law_name_is" "_law_name_is" st__law_name_is [] ["_law_word"] F__law_name_is) : Has P w K mg base 2 "_law_words" "_law_words" st__law_words [] ["_law_form", "_law_words_here", "_law_count"] F__law_words := by
  obtain ⟨f, fd, d⟩ := hd
  exact ⟨⟨f, fd, d, fn__law_words d B T c__law_figures c__law_name_is⟩⟩
/-! _law_row_spoilt: names 0:_law_draw 1:_law_row 2:_law_words_here 3:_law_sort 4:_law_at 5:_law_spot 6:_law_odd 7:_law_both 8:_law_sign -/
noncomputable def B__law_row_spoilt : S → OutS :=
  (sSeq (sPar [2, 3] (vCons (eMeth "str" splitG (aVar 1) (aCons (mA (eC (.str " "))) aNil)) (vCons (eCall (fun ds h => F__law_next ds h) (fCons (eVar 0) (fCons (eC (.int 7)) fNil))) vNil)))
  (sSeq (sPar [4, 5] (vCons (eCall (fun ds h => F__law_next ds h) (fCons (eVar 0) (fCons (mF (eOpN lenG (aCons (aVar 2) aNil))) fNil))) (vCons (eCall (fun ds h => F__law_next ds h) (fCons (eVar 0) (fCons (mF (eOp2 addG (mA (mF (eOpN lenG (aCons (aVar 1) aNil)))) (mA (eC (.int 1))))) fNil))) vNil)))
  (sSeq (sIf (mT (eOp2 eqG (aVar 3) (mA (eC (.int 0)))))
  (sRet (eMeth "str" joinG (mA (eC (.str " "))) (aCons (mA (mF (eOp2 addG (mA (mF (eSlc (aVar 2) (eC none) (oInt (eVar 4))))) (mA (mF (eSlc (aVar 2) (oInt (mF (eOp2 addG (aVar 4) (mA (eC (.int 1)))))) (eC none))))))) aNil)))
  sNil)
  (sSeq (sIf (mT (eOp2 eqG (aVar 3) (mA (eC (.int 1)))))
  (sRet (eMeth "str" joinG (mA (eC (.str " "))) (aCons (mA (mF (eOp2 addG (mA (mF (eSlc (aVar 2) (eC none) (oInt (mF (eOp2 addG (aVar 4) (mA (eC (.int 1))))))))) (mA (mF (eSlc (aVar 2) (oInt (eVar 4)) (eC none))))))) aNil)))
  sNil)
  (sSeq (sIf (mT (eOp2 eqG (aVar 3) (mA (eC (.int 2)))))
  (sSeq (sSet 6 (eLst (fCons (eC (.str "road")) (fCons (eC (.str "ban")) (fCons (eC (.str "drop")) (fCons (eC (.str "free")) (fCons (eC (.str "undo")) (fCons (eC (.str "0")) (fCons (eC (.str "00")) (fCons (eC (.str "999")) (fCons (eC (.str "1000")) (fCons (eC (.str "1000000000")) (fCons (eC (.str "1000000001")) (fCons (eC (.str "a")) fNil))))))))))))))
  (sSeq (sSet 6 (eOp2 addG (aVar 6) (mA (mF (eLst (fCons (eC (.str "A1")) (fCons (eC (.str "")) (fCons (eC (.str "12345678901234")) (fCons (eC (.str "1000001")) (fCons (eC (.str "-1")) (fCons (eC (.str "7")) (fCons (eC (.str "12345678")) (fCons (eC (.str "closed")) fNil)))))))))))))
  (sRet (eMeth "str" joinG (mA (eC (.str " "))) (aCons (mA (mF (eOp2 addG (mA (mF (eOp2 addG (mA (mF (eSlc (aVar 2) (eC none) (oInt (eVar 4))))) (mA (mF (eLst (fCons (mF (eCall (fun ds h => F__law_pick ds h) (fCons (eVar 0) (fCons (eVar 6) fNil)))) fNil))))))) (mA (mF (eSlc (aVar 2) (oInt (mF (eOp2 addG (aVar 4) (mA (eC (.int 1)))))) (eC none))))))) aNil)))))
  sNil)
  (sSeq (sIf (mT (eOp2 eqG (aVar 3) (mA (eC (.int 3)))))
  (sSeq (sSet 7 (eSlc (aVar 2) (oInt (eVar 4)) (oInt (mF (eOp2 addG (aVar 4) (mA (eC (.int 2))))))))
  (sRet (eMeth "str" joinG (mA (eC (.str " "))) (aCons (mA (mF (eOp2 addG (mA (mF (eOp2 addG (mA (mF (eSlc (aVar 2) (eC none) (oInt (eVar 4))))) (mA (mF (eRev (aVar 7))))))) (mA (mF (eSlc (aVar 2) (oInt (mF (eOp2 addG (aVar 4) (mA (eC (.int 2)))))) (eC none))))))) aNil))))
  sNil)
  (sSeq (sSet 8 (eOp2 mulSG (mA (mF (eCall (fun ds h => F__law_pick ds h) (fCons (eVar 0) (fCons (mF (eLst (fCons (eC (.str " ")) (fCons (eC (.str "0")) (fCons (eC (.str "a")) (fCons (eC (.str "A")) (fCons (eC (.str "-")) (fCons (eC (.str ".")) (fCons (eC (.str "9")) (fCons (eC (.str "z")) (fCons (eC (.str "  ")) fNil))))))))))) fNil))))) (mA (mF (eOpN intG1 (aCons (mA (mF (eOp2 neG (aVar 3) (mA (eC (.int 4)))))) aNil))))))
  (sRet (eOp2 addG (mA (mF (eOp2 addG (mA (mF (eSlc (aVar 1) (eC none) (oInt (eVar 5))))) (aVar 8)))) (mA (mF (eSlc (aVar 1) (oInt (mF (eOp2 addG (aVar 5) (mA (mF (eOpN intG1 (aCons (mA (mF (eOp2 neG (aVar 3) (mA (eC (.int 5)))))) aNil))))))) (eC none)))))))))))))
noncomputable def F__law_row_spoilt : List D → List D → OutF := hide (bodyF 9 B__law_row_spoilt)
theorem E__law_row_spoilt (ds h : List D) : F__law_row_spoilt ds h = (B__law_row_spoilt ⟨ds.map .fz ++ List.replicate (9 - ds.length) .un, h⟩).res := by rw [show F__law_row_spoilt = bodyF 9 B__law_row_spoilt from hide_eq _, bodyF_ap]
theorem sc__law_row_spoilt : FnScope ["_law_draw", "_law_row", "_law_words_here", "_law_sort", "_law_at", "_law_spot", "_law_odd", "_law_both", "_law_sign"] ["_law_draw", "_law_row"] (defScope st__law_row_spoilt) := ⟨rfl, rfl, rfl, by decide +kernel, rfl, by decide +kernel, by decide +kernel⟩
theorem bp__law_row_spoilt {f : Addr} {fd : FuncData} (F : Dfn K mg "_law_row_spoilt" "_law_row_spoilt" st__law_row_spoilt [] f fd) : BdP K fd ["_law_draw", "_law_row"] 2 (fun ds => ds) := BdP.all F.fn fun _ _ _ _ _ _ us hl => match us, hl with | [_, _], _ => rfl
theorem fn__law_row_spoilt {f : Addr} {fd : FuncData} (d : Dfn K mg "_law_row_spoilt" "_law_row_spoilt" st__law_row_spoilt [] f fd) (B : Bt mg) (T : Txt w K mg) (c__law_next : Has P w K mg base 2 "_law_next" "_law_next" st__law_next [] ["_law_draw", "_law_size"] F__law_next) (c__law_pick : Has P w K mg base 3 "_law_pick" "_law_pick" st__law_pick [] ["_law_draw", "_law_choices"] F__law_pick) : FnG P w K mg base 4 f fd ["_law_draw", "_law_row"] (spD K mg (["_law_draw", "_law_row"] : List Str).length F__law_row_spoilt) := by
  have nd := (sc__law_row_spoilt).nd
  have h1 : ∀ (cdv : Value) (A : Around) (outer : List Env) (s : Shared) (H : Hp) (E : XK), A.guards = some [] → Room 3 (A.deeper (envOfC "_law_row_spoilt" (defScope st__law_row_spoilt) s.heap.objs.size f cdv)) → PSsD (cxOf (L2.CX P w) P w K mg base ["_law_draw", "_law_row", "_law_words_here", "_law_sort", "_law_at", "_law_spot", "_law_odd", "_law_both", "_law_sign"] "_law_row_spoilt" (defScope st__law_row_spoilt) f cdv A outer s H E) (defBody st__law_row_spoilt) B__law_row_spoilt := by
    intro cdv A outer s H E hgd hr
    have hu : (A.deeper (envOfC "_law_row_spoilt" (defScope st__law_row_spoilt) s.heap.objs.size f cdv)).units + 64 < cLine := by have := hr.un; omega
    exact (PSsD.cons (sPar2 2 3 rfl nd (vC (mSplit (nA 1) (aC (fA PD.str) a0)) (vC (Has.call c__law_next hgd hr (fun _ _ => bp__law_next) (fC (nF 0) (fC PD.int f0))) v0)) (vCons_len (vCons_len vNil_len)))
  (PSsD.cons (sPar2 4 5 rfl nd (vC (Has.call c__law_next hgd hr (fun _ _ => bp__law_next) (fC (nF 0) (fC (vF (cLen B (aC (nA 2) a0))) f0))) (vC (Has.call c__law_next hgd hr (fun _ _ => bp__law_next) (fC (nF 0) (fC (vF (oAdd (fA (vF (cLen B (aC (nA 1) a0)))) (fA PD.int))) f0))) v0)) (vCons_len (vCons_len vNil_len)))
  (PSsD.cons (PSD.ite (tEq hu (nA 3) (fA PD.int))
  (PSsD.one (PSD.ret (mJoin (fA PD.str) (aC (fA (vF (oAdd (fA (vF (xSlc (nA 2) sl0 (slS (nF 4))))) (fA (vF (xSlc (nA 2) (slS (vF (oAdd (nA 4) (fA PD.int)))) sl0)))))) a0))))
  PSsD.nil)
  (PSsD.cons (PSD.ite (tEq hu (nA 3) (fA PD.int))
  (PSsD.one (PSD.ret (mJoin (fA PD.str) (aC (fA (vF (oAdd (fA (vF (xSlc (nA 2) sl0 (slS (vF (oAdd (nA 4) (fA PD.int))))))) (fA (vF (xSlc (nA 2) (slS (nF 4)) sl0)))))) a0))))
  PSsD.nil)
  (PSsD.cons (PSD.ite (tEq hu (nA 3) (fA PD.int))
  (PSsD.cons (sSetN 6 nd (xLst (fC PD.str (fC PD.str (fC PD.str (fC PD.str (fC PD.str (fC PD.str (fC PD.str (fC PD.str (fC PD.str (fC PD.str (fC PD.str (fC PD.str f0))))))))))))))
  (PSsD.cons (sSetN 6 nd (oAdd (nA 6) (fA (vF (xLst (fC PD.str (fC PD.str (fC PD.str (fC PD.str (fC PD.str (fC PD.str (fC PD.str (fC PD.str f0)))))))))))))
  (PSsD.one (PSD.ret (mJoin (fA PD.str) (aC (fA (vF (oAdd (fA (vF (oAdd (fA (vF (xSlc (nA 2) sl0 (slS (nF 4))))) (fA (vF (xLst (fC (vF (Has.call c__law_pick hgd hr (fun _ _ => bp__law_pick) (fC (nF 0) (fC (nF 6) f0)))) f0))))))) (fA (vF (xSlc (nA 2) (slS (vF (oAdd (nA 4) (fA PD.int)))) sl0)))))) a0))))))
  PSsD.nil)
  (PSsD.cons (PSD.ite (tEq hu (nA 3) (fA PD.int))
  (PSsD.cons (sSetN 7 nd (xSlc (nA 2) (slS (nF 4)) (slS (vF (oAdd (nA 4) (fA PD.int))))))
  (PSsD.one (PSD.ret (mJoin (fA PD.str) (aC (fA (vF (oAdd (fA (vF (oAdd (fA (vF (xSlc (nA 2) sl0 (slS (nF 4))))) (fA (vF (PD.rev (nA 7))))))) (fA (vF (xSlc (nA 2) (slS (vF (oAdd (nA 4) (fA PD.int)))) sl0)))))) a0)))))
  PSsD.nil)
  (PSsD.cons (sSetN 8 nd (oMulS (fA (vF (Has.call c__law_pick hgd hr (fun _ _ => bp__law_pick) (fC (nF 0) (fC (vF (xLst (fC PD.str (fC PD.str (fC PD.str (fC PD.str (fC PD.str (fC PD.str (fC PD.str (fC PD.str (fC PD.str f0))))))))))) f0))))) (fA (vF (cInt B (aC (fA (vF (oNe hu (nA 3) (fA PD.int)))) a0))))))
  (PSsD.one (PSD.ret (oAdd (fA (vF (oAdd (fA (vF (xSlc (nA 1) sl0 (slS (nF 5))))) (nA 8)))) (fA (vF (xSlc (nA 1) (slS (vF (oAdd (nA 5) (fA (vF (cInt B (aC (fA (vF (oNe hu (nA 3) (fA PD.int)))) a0))))))) sl0)))))))))))))
  have h2 := Dfn.ok d sc__law_row_spoilt h1
  have h3 : FnG P w K mg base 4 f fd ["_law_draw", "_law_row"] (spD K mg 2 (bodyF 9 B__law_row_spoilt)) := h2
  have h4 : FnG P w K mg base 4 f fd ["_law_draw", "_law_row"] (spD K mg 2 F__law_row_spoilt) := by rw [show F__law_row_spoilt = bodyF 9 B__law_row_spoilt from hide_eq _]; exact h3
  exact h4
theorem ok__law_row_spoilt (hd : ∃ f fd, Dfn K mg "_law_row_spoilt" "_law_row_spoilt" st__law_row_spoilt [] f fd) (B : Bt mg) (T : Txt w K mg) (c__law_next : Has P w K mg base 2 "_law_next" "_law_next" st__law_next [] ["_law_draw", "_law_size"] F__law_next) (c__law_pick : Has P w K mg base 3 "_law_pick" "_law_pick" st__law_pick [] ["_law_draw", "_law_choices"] F__law_pick) : Has P w K mg base 4 "_law_row_spoilt" "_law_row_spoilt" st__law_row_spoilt [] ["_law_draw", "_law_row"] F__law_row_spoilt := by
  obtain ⟨f, fd, d⟩ := hd
  exact ⟨⟨f, fd, d, fn__law_row_spoilt d B T c__law_next c__law_pick⟩⟩
/-! _law_spoilt: names 0:_law_draw 1:_law_text_here 2:_law_rows 3:_law_sort 4:_law_at -/
noncomputable def B__law_spoilt : S → OutS :=
  (sSeq (sPar [2, 3] (vCons (eMeth "str" splitG (aVar 1) (aCons (mA (eC (.str "\n"))) aNil)) (vCons (eCall (fun ds h => F__law_next ds h) (fCons (eVar 0) (fCons (eC (.int 7)) fNil))) vNil)))
  (sSeq (sSet 4 (eCall (fun ds h => F__law_next ds h) (fCons (eVar 0) (fCons (mF (eOpN lenG (aCons (aVar 2) aNil))) fNil))))
  (sSeq (sIf (mT (eOp2 eqG (aVar 3) (mA (eC (.int 0)))))
  (sRet (eSlc (aVar 1) (eC none) (oInt (eC (.int (-1))))))
  sNil)
  (sSeq (sIf (mT (eOp2 eqG (aVar 3) (mA (eC (.int 1)))))
  (sRet (eMeth "str" joinG (mA (eC (.str "\n"))) (aCons (mA (mF (eOp2 addG (mA (mF (eSlc (aVar 2) (eC none) (oInt (eVar 4))))) (mA (mF (eSlc (aVar 2) (oInt (mF (eOp2 addG (aVar 4) (mA (eC (.int 1)))))) (eC none))))))) aNil)))
  sNil)
  (sSeq (sIf (mT (eOp2 eqG (aVar 3) (mA (eC (.int 2)))))
  (sRet (eMeth "str" joinG (mA (eC (.str "\n"))) (aCons (mA (mF (eOp2 addG (mA (mF (eSlc (aVar 2) (eC none) (oInt (mF (eOp2 addG (aVar 4) (mA (eC (.int 1))))))))) (mA (mF (eSlc (aVar 2) (oInt (eVar 4)) (eC none))))))) aNil)))
  sNil)
  (sSeq (sIf (mT (eOp2 eqG (aVar 3) (mA (eC (.int 3)))))
  (sRet (eSlc (aVar 1) (eC none) (oInt (mF (eCall (fun ds h => F__law_next ds h) (fCons (eVar 0) (fCons (mF (eOp2 addG (mA (mF (eOpN lenG (aCons (aVar 1) aNil)))) (mA (eC (.int 1))))) fNil)))))))
  sNil)
  (sRet (eMeth "str" joinG (mA (eC (.str "\n"))) (aCons (mA (mF (eOp2 addG (mA (mF (eOp2 addG (mA (mF (eSlc (aVar 2) (eC none) (oInt (eVar 4))))) (mA (mF (eLst (fCons (mF (eCall (fun ds h => F__law_row_spoilt ds h) (fCons (eVar 0) (fCons (mF (eOp2 ixG (aVar 2) (aVar 4))) fNil)))) fNil))))))) (mA (mF (eSlc (aVar 2) (oInt (mF (eOp2 addG (aVar 4) (mA (eC (.int 1)))))) (eC none))))))) aNil)))))))))
noncomputable def F__law_spoilt : List D → List D → OutF := hide (bodyF 5 B__law_spoilt)
theorem E__law_spoilt (ds h : List D) : F__law_spoilt ds h = (B__law_spoilt ⟨ds.map .fz ++ List.replicate (5 - ds.length) .un, h⟩).res := by rw [show F__law_spoilt = bodyF 5 B__law_spoilt from hide_eq _, bodyF_ap]
theorem sc__law_spoilt : FnScope ["_law_draw", "_law_text_here", "_law_rows", "_law_sort", "_law_at"] ["_law_draw", "_law_text_here"] (defScope st__law_spoilt) := ⟨rfl, rfl, rfl, by decide +kernel, rfl, by decide +kernel, by decide +kernel⟩
theorem bp__law_spoilt {f : Addr} {fd : FuncData} (F : Dfn K mg "_law_spoilt" "_law_spoilt" st__law_spoilt [] f fd) : BdP K fd ["_law_draw", "_law_text_here"] 2 (fun ds => ds) := BdP.all F.fn fun _ _ _ _ _ _ us hl => match us, hl with | [_, _], _ => rfl
theorem fn__law_spoilt {f : Addr} {fd : FuncData} (d : Dfn K mg "_law_spoilt" "_law_spoilt" st__law_spoilt [] f fd) (B : Bt mg) (T : Txt w K mg) (c__law_next : Has P w K mg base 2 "_law_next" "_law_next" st__law_next [] ["_law_draw", "_law_size"] F__law_next) (c__law_row_spoilt : Has P w K mg base 4 "_law_row_spoilt" "_law_row_spoilt" st__law_row_spoilt [] ["_law_draw", "_law_row"] F__law_row_spoilt) : FnG P w K mg base 5 f fd ["_law_draw", "_law_text_here"] (spD K mg (["_law_draw", "_law_text_here"] : List Str).length F__law_spoilt) := by
  have nd := (sc__law_spoilt).nd
  have h1 : ∀ (cdv : Value) (A : Around) (outer : List Env) (s : Shared) (H : Hp) (E : XK), A.guards = some [] → Room 4 (A.deeper (envOfC "_law_spoilt" (defScope st__law_spoilt) s.heap.objs.size f cdv)) → PSsD (cxOf (L2.CX P w) P w K mg base ["_law_draw", "_law_text_here", "_law_rows", "_law_sort", "_law_at"] "_law_spoilt" (defScope st__law_spoilt) f cdv A outer s H E) (defBody st__law_spoilt) B__law_spoilt := by
    intro cdv A outer s H E hgd hr
    have hu : (A.deeper (envOfC "_law_spoilt" (defScope st__law_spoilt) s.heap.objs.size f cdv)).units + 64 < cLine := by have := hr.un; omega
    exact (PSsD.cons (sPar2 2 3 rfl nd (vC (mSplit (nA 1) (aC (fA PD.str) a0)) (vC (Has.call c__law_next hgd hr (fun _ _ => bp__law_next) (fC (nF 0) (fC PD.int f0))) v0)) (vCons_len (vCons_len vNil_len)))
  (PSsD.cons (sSetN 4 nd (Has.call c__law_next hgd hr (fun _ _ => bp__law_next) (fC (nF 0) (fC (vF (cLen B (aC (nA 2) a0))) f0))))
  (PSsD.cons (PSD.ite (tEq hu (nA 3) (fA PD.int))
  (PSsD.one (PSD.ret (xSlc (nA 1) sl0 (slS PD.nint))))
  PSsD.nil)
  (PSsD.cons (PSD.ite (tEq hu (nA 3) (fA PD.int))
  (PSsD.one (PSD.ret (mJoin (fA PD.str) (aC (fA (vF (oAdd (fA (vF (xSlc (nA 2) sl0 (slS (nF 4))))) (fA (vF (xSlc (nA 2) (slS (vF (oAdd (nA 4) (fA PD.int)))) sl0)))))) a0))))
  PSsD.nil)
  (PSsD.cons (PSD.ite (tEq hu (nA 3) (fA PD.int))
  (PSsD.one (PSD.ret (mJoin (fA PD.str) (aC (fA (vF (oAdd (fA (vF (xSlc (nA 2) sl0 (slS (vF (oAdd (nA 4) (fA PD.int))))))) (fA (vF (xSlc (nA 2) (slS (nF 4)) sl0)))))) a0))))
  PSsD.nil)
  (PSsD.cons (PSD.ite (tEq hu (nA 3) (fA PD.int))
  (PSsD.one (PSD.ret (xSlc (nA 1) sl0 (slS (vF (Has.call c__law_next hgd hr (fun _ _ => bp__law_next) (fC (nF 0) (fC (vF (oAdd (fA (vF (cLen B (aC (nA 1) a0)))) (fA PD.int))) f0))))))))
  PSsD.nil)
  (PSsD.one (PSD.ret (mJoin (fA PD.str) (aC (fA (vF (oAdd (fA (vF (oAdd (fA (vF (xSlc (nA 2) sl0 (slS (nF 4))))) (fA (vF (xLst (fC (vF (Has.call c__law_row_spoilt hgd hr (fun _ _ => bp__law_row_spoilt) (fC (nF 0) (fC (vF (xIx (nA 2) (nA 4))) f0)))) f0))))))) (fA (vF (xSlc (nA 2) (slS (vF (oAdd (nA 4) (fA PD.int)))) sl0)))))) a0))))))))))
  have h2 := Dfn.ok d sc__law_spoilt h1
  have h3 : FnG P w K mg base 5 f fd ["_law_draw", "_law_text_here"] (spD K mg 2 (bodyF 5 B__law_spoilt)) := h2
  have h4 : FnG P w K mg base 5 f fd ["_law_draw", "_law_text_here"] (spD K mg 2 F__law_spoilt) := by rw [show F__law_spoilt = bodyF 5 B__law_spoilt from hide_eq _]; exact h3
  exact h4
theorem ok__law_spoilt (hd : ∃ f fd, Dfn K mg "_law_spoilt" "_law_spoilt" st__law_spoilt [] f fd) (B : Bt mg) (T : Txt w K mg) (c__law_next : Has P w K mg base 2 "_law_next" "_law_next" st__law_next [] ["_law_draw", "_law_size"] F__law_next) (c__law_row_spoilt : Has P w K mg base 4 "_law_row_spoilt" "_law_row_spoilt" st__law_row_spoilt [] ["_law_draw", "_law_row"] F__law_row_spoilt) : Has P w K mg base 5 "_law_spoilt" "_law_spoilt" st__law_spoilt [] ["_law_draw", "_law_text_here"] F__law_spoilt := by
  obtain ⟨f, fd, d⟩ := hd
  exact ⟨⟨f, fd, d, fn__law_spoilt d B T c__law_next c__law_row_spoilt⟩⟩
/-! _law_text: names 0:_law_told 1:_law_one 2:_law_stamp 3:_law_hand 4:_law_what_here -/
noncomputable def L__law_text_1 : S → Ou D := (mF (eOpN strG (aCons (aVar 1) aNil)))
theorem A__law_text_1 {r : List Sl} {h : List D} : L__law_text_1 ⟨r, h⟩ = (mF (eOpN strG (aCons (aVar 1) aNil))) ⟨r, h⟩ := rfl
noncomputable def L__law_text_2 : S → Ou D := (mF (eOp2 addG (mA (mF (eMeth "str" joinG (mA (eC (.str " "))) (aCons (mA (mF (eOp2 addG (mA (mF (eLst (fCons (mF (eOpN strG (aCons (aVar 2) aNil))) (fCons (eVar 3) fNil))))) (mA (mF (eLc (iSeq (aVar 4)) [1] (gtName 1) (eC true) L__law_text_1)))))) aNil)))) (mA (eC (.str "\n")))))
theorem A__law_text_2 {r : List Sl} {h : List D} : L__law_text_2 ⟨r, h⟩ = (mF (eOp2 addG (mA (mF (eMeth "str" joinG (mA (eC (.str " "))) (aCons (mA (mF (eOp2 addG (mA (mF (eLst (fCons (mF (eOpN strG (aCons (aVar 2) aNil))) (fCons (eVar 3) fNil))))) (mA (mF (eLc (iSeq (aVar 4)) [1] (gtName 1) (eC true) L__law_text_1)))))) aNil)))) (mA (eC (.str "\n"))))) ⟨r, h⟩ := rfl
noncomputable def B__law_text : S → OutS :=
  (sRet (eMeth "str" joinG (mA (eC (.str ""))) (aCons (mA (mF (eLc (iSeq (aVar 0)) [2, 3, 4] (gtTup 3 (gtCons (gtName 2) (gtCons (gtName 3) (gtCons (gtName 4) gtNil)))) (eC true) L__law_text_2))) aNil)))
noncomputable def F__law_text : List D → List D → OutF := hide (bodyF 5 B__law_text)
theorem E__law_text (ds h : List D) : F__law_text ds h = (B__law_text ⟨ds.map .fz ++ List.replicate (5 - ds.length) .un, h⟩).res := by rw [show F__law_text = bodyF 5 B__law_text from hide_eq _, bodyF_ap]
theorem sc__law_text : FnScope ["_law_told", "_law_one", "_law_stamp", "_law_hand", "_law_what_here"] ["_law_told"] (defScope st__law_text) := ⟨rfl, rfl, rfl, by decide +kernel, rfl, by decide +kernel, by decide +kernel⟩
theorem bp__law_text {f : Addr} {fd : FuncData} (F : Dfn K mg "_law_text" "_law_text" st__law_text [] f fd) : BdP K fd ["_law_told"] 1 (fun ds => ds) := BdP.all F.fn fun _ _ _ _ _ _ us hl => match us, hl with | [_], _ => rfl
theorem fn__law_text {f : Addr} {fd : FuncData} (d : Dfn K mg "_law_text" "_law_text" st__law_text [] f fd) (B : Bt mg) (T : Txt w K mg)  : FnG P w K mg base 1 f fd ["_law_told"] (spD K mg (["_law_told"] : List Str).length F__law_text) := by
  have nd := (sc__law_text).nd
  have h1 : ∀ (cdv : Value) (A : Around) (outer : List Env) (s : Shared) (H : Hp) (E : XK), A.guards = some [] → Room 0 (A.deeper (envOfC "_law_text" (defScope st__law_text) s.heap.objs.size f cdv)) → PSsD (cxOf (L2.CX P w) P w K mg base ["_law_told", "_law_one", "_law_stamp", "_law_hand", "_law_what_here"] "_law_text" (defScope st__law_text) f cdv A outer s H E) (defBody st__law_text) B__law_text := by
    intro cdv A outer s H E hgd hr
    have hu : (A.deeper (envOfC "_law_text" (defScope st__law_text) s.heap.objs.size f cdv)).units + 64 < cLine := by have := hr.un; omega
    exact (PSsD.one (PSD.ret (mJoin (fA PD.str) (aC (fA (vF (lcW (g := (gTup K 3 (gCons (gName 2) (gCons (gName 3) (gCons (gName 4) gNil))))) [("_law_stamp", 2), ("_law_hand", 3), ("_law_what_here", 4)] rfl nd (iSeqW (nA 0)) (fun _ _ _ _ _ => (gT rfl (gC (gN 2 nd) (gC (gN 3 nd) (gC (gN 4 nd) PGsD.nil))))) (fun _ _ _ _ _ => PTsD.nil) (fun _ _ _ _ _ => (vF (oAdd (fA (vF (mJoin (fA PD.str) (aC (fA (vF (oAdd (fA (vF (xLst (fC (vF (cStr B (aC (nA 2) a0))) (fC (nF 3) f0))))) (fA (vF (lcW (g := (gName 1)) [("_law_one", 1)] rfl nd (iSeqW (nA 4)) (fun _ _ _ _ _ => (gN 1 nd)) (fun _ _ _ _ _ => PTsD.nil) (fun _ _ _ _ _ => (vF (cStr B (aC (nA 1) a0)))))))))) a0)))) (fA PD.str))))))) a0))))
  have h2 := Dfn.ok d sc__law_text h1
  have h3 : FnG P w K mg base 1 f fd ["_law_told"] (spD K mg 1 (bodyF 5 B__law_text)) := h2
  have h4 : FnG P w K mg base 1 f fd ["_law_told"] (spD K mg 1 F__law_text) := by rw [show F__law_text = bodyF 5 B__law_text from hide_eq _]; exact h3
  exact h4
theorem ok__law_text (hd : ∃ f fd, Dfn K mg "_law_text" "_law_text" st__law_text [] f fd) (B : Bt mg) (T : Txt w K mg)  : Has P w K mg base 1 "_law_text" "_law_text" st__law_text [] ["_law_told"] F__law_text := by
  obtain ⟨f, fd, d⟩ := hd
  exact ⟨⟨f, fd, d, fn__law_text d B T ⟩⟩
/-! _law_is_row: names 0:_law_row 1:_law_words_here 2:_law_form 3:_law_ahead 4:_law_told -/
noncomputable def B__law_is_row : S → OutS :=
  (sSeq (sSet 1 (eMeth "str" splitG (aVar 0) (aCons (mA (eC (.str " "))) aNil)))
  (sSeq (sIf (tOr (mT (eOp2 ltG (mA (mF (eOpN lenG (aCons (aVar 1) aNil)))) (mA (eC (.int 4))))) (mT (eOp2 (inG true) (mA (mF (eOp2 ixG (aVar 1) (mA (eC (.int 2)))))) (mA (mF (eLst (fCons (eC (.str "road")) (fCons (eC (.str "drop")) (fCons (eC (.str "ban")) (fCons (eC (.str "free")) (fCons (eC (.str "undo")) fNil)))))))))))
  (sRet (mV (eC (.bl false))))
  sNil)
  (sSeq (sSet 2 (eLit [("road", "nddd"), ("drop", "n"), ("ban", "nn"), ("free", "nn"), ("undo", "dn")] (mF (eOp2 ixG (aVar 1) (mA (eC (.int 2)))))))
  (sSeq (sPar [3, 4] (vCons (eCall (fun ds h => F__law_words ds h) (fCons (eC (.str "dn")) (fCons (mF (eSlc (aVar 1) (eC none) (oInt (eC (.int 2))))) (fCons (eC (.int 13)) fNil)))) (vCons (eCall (fun ds h => F__law_words ds h) (fCons (eVar 2) (fCons (mF (eSlc (aVar 1) (oInt (eC (.int 3))) (eC none))) (fCons (eC (.int 13)) fNil)))) vNil)))
  (sSeq (sIf (tOr (mT (eOp2 (isNG false) (aVar 3) (mA (eC (.non))))) (tOr (mT (eOp2 (isNG false) (aVar 4) (mA (eC (.non))))) (mT (eOp2 gtG (mA (mF (eOp2 ixG (aVar 3) (mA (eC (.int 0)))))) (mA (mF (eOp2 powG (mA (eC (.int 10))) (mA (eC (.int 6))))))))))
  (sRet (mV (eC (.bl false))))
  sNil)
  (sSeq (sIf (mT (eOp2 eqG (mA (mF (eOp2 ixG (aVar 1) (mA (eC (.int 2)))))) (mA (eC (.str "undo")))))
  (sRet (eOp2 leG (mA (mF (eOp2 ixG (aVar 4) (mA (eC (.int 0)))))) (mA (mF (eOp2 powG (mA (eC (.int 10))) (mA (eC (.int 6))))))))
  sNil)
  (sSeq (sIf (mT (eOp2 neG (mA (mF (eOp2 ixG (aVar 1) (mA (eC (.int 2)))))) (mA (eC (.str "road")))))
  (sRet (mV (eC (.bl true))))
  sNil)
  (sRet (eAnd (mT (eOp2 leG (mA (mF (eOp2 ixG (aVar 4) (mA (eC (.int 1)))))) (mA (eC (.int 999))))) (eAnd (mT (eOp2 leG (mA (mF (eOp2 ixG (aVar 4) (mA (eC (.int 2)))))) (mA (eC (.int 999))))) (eAnd (mT (eOp2 neG (mA (mF (eOp2 ixG (aVar 4) (mA (eC (.int 1)))))) (mA (mF (eOp2 ixG (aVar 4) (mA (eC (.int 2)))))))) (eChain leG leG (mA (eC (.int 1))) (mA (mF (eOp2 ixG (aVar 4) (mA (eC (.int 3)))))) (mA (mF (eOp2 powG (mA (eC (.int 10))) (mA (eC (.int 6))))))))))))))))))
noncomputable def F__law_is_row : List D → List D → OutF := hide (bodyF 5 B__law_is_row)
theorem E__law_is_row (ds h : List D) : F__law_is_row ds h = (B__law_is_row ⟨ds.map .fz ++ List.replicate (5 - ds.length) .un, h⟩).res := by rw [show F__law_is_row = bodyF 5 B__law_is_row from hide_eq _, bodyF_ap]
theorem sc__law_is_row : FnScope ["_law_row", "_law_words_here", "_law_form", "_law_ahead", "_law_told"] ["_law_row"] (defScope st__law_is_row) := ⟨rfl, rfl, rfl, by decide +kernel, rfl, by decide +kernel, by decide +kernel⟩
theorem bp__law_is_row {f : Addr} {fd : FuncData} (F : Dfn K mg "_law_is_row" "_law_is_row" st__law_is_row [] f fd) : BdP K fd ["_law_row"] 1 (fun ds => ds) := BdP.all F.fn fun _ _ _ _ _ _ us hl => match us, hl with | [_], _ => rfl
theorem fn__law_is_row {f : Addr} {fd : FuncData} (d : Dfn K mg "_law_is_row" "_law_is_row" st__law_is_row [] f fd) (B : Bt mg) (T : Txt w K mg) (c__law_words : Has P w K mg base 2 "_law_words" "_law_words" st__law_words [] ["_law_form", "_law_words_here", "_law_count"] F__law_words) : FnG P w K mg base 3 f fd ["_law_row"] (spD K mg (["_law_row"] : List Str).length F__law_is_row) := by
  have nd := (sc__law_is_row).nd
  have h1 : ∀ (cdv : Value) (A : Around) (outer : List Env) (s : Shared) (H : Hp) (E : XK), A.guards = some [] → Room 2 (A.deeper (envOfC "_law_is_row" (defScope st__law_is_row) s.heap.objs.size f cdv)) → PSsD (cxOf (L2.CX P w) P w K mg base ["_law_row", "_law_words_here", "_law_form", "_law_ahead", "_law_told"] "_law_is_row" (defScope st__law_is_row) f cdv A outer s H E) (defBody st__law_is_row) B__law_is_row := by
    intro cdv A outer s H E hgd hr
    have hu : (A.deeper (envOfC "_law_is_row" (defScope st__law_is_row) s.heap.objs.size f cdv)).units + 64 < cLine := by have := hr.un; omega
    exact (PSsD.cons (sSetN 1 nd (mSplit (nA 0) (aC (fA PD.str) a0)))
  (PSsD.cons (PSD.ite (PTD.of (PWD.or (tLt (fA (vF (cLen B (aC (nA 1) a0)))) (fA PD.int)) (PWD.or1 (tNotIn (fA (vF (xIx (nA 1) (fA PD.int)))) (fA (vF (xLst (fC PD.str (fC PD.str (fC PD.str (fC PD.str (fC PD.str f0))))))))))))
  (PSsD.one (PSD.ret (fV PD.bl)))
  PSsD.nil)
  (PSsD.cons (sSetN 2 nd (PD.lit (t := [("road", "nddd"), ("drop", "n"), ("ban", "nn"), ("free", "nn"), ("undo", "dn")]) hu (pps_cons pe_str pe_str (pps_cons pe_str pe_str (pps_cons pe_str pe_str (pps_cons pe_str pe_str (pps_cons pe_str pe_str pps_nil))))) rfl rfl (by simp) (by decide) (by decide) (by decide +kernel) (vF (xIx (nA 1) (fA PD.int))) (fun _ _ => rfl)))
  (PSsD.cons (sPar2 3 4 rfl nd (vC (Has.call c__law_words hgd hr (fun _ _ => bp__law_words) (fC PD.str (fC (vF (xSlc (nA 1) sl0 (slS PD.int))) (fC PD.int f0)))) (vC (Has.call c__law_words hgd hr (fun _ _ => bp__law_words) (fC (nF 2) (fC (vF (xSlc (nA 1) (slS PD.int) sl0)) (fC PD.int f0)))) v0)) (vCons_len (vCons_len vNil_len)))
  (PSsD.cons (PSD.ite (PTD.of (PWD.or (tIs (nA 3) (fA PD.non)) (PWD.or (tIs (nA 4) (fA PD.non)) (PWD.or1 (tGt (fA (vF (xIx (nA 3) (fA PD.int)))) (fA (vF (oPow (fA PD.int) (fA PD.int)))))))))
  (PSsD.one (PSD.ret (fV PD.bl)))
  PSsD.nil)
  (PSsD.cons (PSD.ite (tEq hu (fA (vF (xIx (nA 1) (fA PD.int)))) (fA PD.str))
  (PSsD.one (PSD.ret (oLe (fA (vF (xIx (nA 4) (fA PD.int)))) (fA (vF (oPow (fA PD.int) (fA PD.int)))))))
  PSsD.nil)
  (PSsD.cons (PSD.ite (tNe hu (fA (vF (xIx (nA 1) (fA PD.int)))) (fA PD.str))
  (PSsD.one (PSD.ret (fV PD.bl)))
  PSsD.nil)
  (PSsD.one (PSD.ret (PD.and (oLe (fA (vF (xIx (nA 4) (fA PD.int)))) (fA PD.int)) (PD.and (oLe (fA (vF (xIx (nA 4) (fA PD.int)))) (fA PD.int)) (PD.and (oNe hu (fA (vF (xIx (nA 4) (fA PD.int)))) (fA (vF (xIx (nA 4) (fA PD.int))))) (PD.and1 (oLeLe (fA PD.int) (fA (vF (xIx (nA 4) (fA PD.int)))) (fA (vF (oPow (fA PD.int) (fA PD.int))))))))))))))))))
  have h2 := Dfn.ok d sc__law_is_row h1
  have h3 : FnG P w K mg base 3 f fd ["_law_row"] (spD K mg 1 (bodyF 5 B__law_is_row)) := h2
  have h4 : FnG P w K mg base 3 f fd ["_law_row"] (spD K mg 1 F__law_is_row) := by rw [show F__law_is_row = bodyF 5 B__law_is_row from hide_eq _]; exact h3
  exact h4
theorem ok__law_is_row (hd : ∃ f fd, Dfn K mg "_law_is_row" "_law_is_row" st__law_is_row [] f fd) (B : Bt mg) (T : Txt w K mg) (c__law_words : Has P w K mg base 2 "_law_words" "_law_words" st__law_words [] ["_law_form", "_law_words_here", "_law_count"] F__law_words) : Has P w K mg base 3 "_law_is_row" "_law_is_row" st__law_is_row [] ["_law_row"] F__law_is_row := by
  obtain ⟨f, fd, d⟩ := hd
  exact ⟨⟨f, fd, d, fn__law_is_row d B T c__law_words⟩⟩
/-! _law_due: names 0:_law_text_here 1:_law_rows 2:_law_at 3:_law_row -/
noncomputable def L__law_due_1 : S → OutS := (sIf (tNot (mT (eCall (fun ds h => F__law_is_row ds h) (fCons (eVar 3) fNil))))
  (sRet (vVar 2))
  sNil)
theorem A__law_due_1 {r : List Sl} {h : List D} : L__law_due_1 ⟨r, h⟩ = (sIf (tNot (mT (eCall (fun ds h => F__law_is_row ds h) (fCons (eVar 3) fNil))))
  (sRet (vVar 2))
  sNil) ⟨r, h⟩ := rfl
noncomputable def B__law_due : S → OutS :=
  (sSeq (sSet 1 (eMeth "str" splitG (aVar 0) (aCons (mA (eC (.str "\n"))) aNil)))
  (sSeq (sFor (iEnum (aCons (mA (mF (eSlc (aVar 1) (eC none) (oInt (eC (.int (-1))))))) aNil)) (gtTup 2 (gtCons (gtName 2) (gtCons (gtName 3) gtNil))) L__law_due_1)
  (sRet (eIf (mT (eOp2 neG (mA (mF (eOp2 ixG (aVar 1) (mA (eC (.int (-1))))))) (mA (eC (.str ""))))) (eOp2 subG (mA (mF (eOpN lenG (aCons (aVar 1) aNil)))) (mA (eC (.int 1)))) (mV (eC (.non)))))))
noncomputable def F__law_due : List D → List D → OutF := hide (bodyF 4 B__law_due)
theorem E__law_due (ds h : List D) : F__law_due ds h = (B__law_due ⟨ds.map .fz ++ List.replicate (4 - ds.length) .un, h⟩).res := by rw [show F__law_due = bodyF 4 B__law_due from hide_eq _, bodyF_ap]
theorem sc__law_due : FnScope ["_law_text_here", "_law_rows", "_law_at", "_law_row"] ["_law_text_here"] (defScope st__law_due) := ⟨rfl, rfl, rfl, by decide +kernel, rfl, by decide +kernel, by decide +kernel⟩
theorem bp__law_due {f : Addr} {fd : FuncData} (F : Dfn K mg "_law_due" "_law_due" st__law_due [] f fd) : BdP K fd ["_law_text_here"] 1 (fun ds => ds) := BdP.all F.fn fun _ _ _ _ _ _ us hl => match us, hl with | [_], _ => rfl
theorem fn__law_due {f : Addr} {fd : FuncData} (d : Dfn K mg "_law_due" "_law_due" st__law_due [] f fd) (B : Bt mg) (T : Txt w K mg) (c__law_is_row : Has P w K mg base 3 "_law_is_row" "_law_is_row" st__law_is_row [] ["_law_row"] F__law_is_row) : FnG P w K mg base 4 f fd ["_law_text_here"] (spD K mg (["_law_text_here"] : List Str).length F__law_due) := by
  have nd := (sc__law_due).nd
  have h1 : ∀ (cdv : Value) (A : Around) (outer : List Env) (s : Shared) (H : Hp) (E : XK), A.guards = some [] → Room 3 (A.deeper (envOfC "_law_due" (defScope st__law_due) s.heap.objs.size f cdv)) → PSsD (cxOf (L2.CX P w) P w K mg base ["_law_text_here", "_law_rows", "_law_at", "_law_row"] "_law_due" (defScope st__law_due) f cdv A outer s H E) (defBody st__law_due) B__law_due := by
    intro cdv A outer s H E hgd hr
    have hu : (A.deeper (envOfC "_law_due" (defScope st__law_due) s.heap.objs.size f cdv)).units + 64 < cLine := by have := hr.un; omega
    exact (PSsD.cons (sSetN 1 nd (mSplit (nA 0) (aC (fA PD.str) a0)))
  (PSsD.cons (sForN (passes_of rfl) rfl (iEnumW B (aC (fA (vF (xSlc (nA 1) sl0 (slS PD.nint)))) a0)) (gT rfl (gC (gN 2 nd) (gC (gN 3 nd) PGsD.nil)))
  (PSsD.one (PSD.ite (PTD.not (tVal (Has.call c__law_is_row hgd hr (fun _ _ => bp__law_is_row) (fC (nF 3) f0))))
  (PSsD.one (PSD.ret (nV 2)))
  PSsD.nil)))
  (PSsD.one (PSD.ret (PD.ite (tNe hu (fA (vF (xIx (nA 1) (fA PD.nint)))) (fA PD.str)) (oSub (fA (vF (cLen B (aC (nA 1) a0)))) (fA PD.int)) (fV PD.non))))))
  have h2 := Dfn.ok d sc__law_due h1
  have h3 : FnG P w K mg base 4 f fd ["_law_text_here"] (spD K mg 1 (bodyF 4 B__law_due)) := h2
  have h4 : FnG P w K mg base 4 f fd ["_law_text_here"] (spD K mg 1 F__law_due) := by rw [show F__law_due = bodyF 4 B__law_due from hide_eq _]; exact h3
  exact h4
theorem ok__law_due (hd : ∃ f fd, Dfn K mg "_law_due" "_law_due" st__law_due [] f fd) (B : Bt mg) (T : Txt w K mg) (c__law_is_row : Has P w K mg base 3 "_law_is_row" "_law_is_row" st__law_is_row [] ["_law_row"] F__law_is_row) : Has P w K mg base 4 "_law_due" "_law_due" st__law_due [] ["_law_text_here"] F__law_due := by
  obtain ⟨f, fd, d⟩ := hd
  exact ⟨⟨f, fd, d, fn__law_due d B T c__law_is_row⟩⟩
/-! _law_right: names 0:_law_text_here 1:_law_e 2:_law_found 3:error 4:_law_due_here 5:_law_other -/
noncomputable def B__law_right : S → OutS :=
  (sSeq (sUnp (gtTup 2 (gtCons (gtName 1) (gtCons (gtName 2) gtNil))) (eTup (fCons (eC (.non)) (fCons (eC (.non)) fNil))))
  (sSeq (sTryAs xs_WayError 3 (sSet 2 (eCall (fun ds h => F_read_edits ds h) (fCons (eVar 0) fNil)))
  (sSet 1 (mV (eVar 3))))
  (sSeq (sSet 4 (eIf (mT (eIsi ["str"] (aVar 0))) (eCall (fun ds h => F__law_due ds h) (fCons (eVar 0) fNil)) (mV (eC (.int 0)))))
  (sSeq (sIf (mT (eOp2 (isNG false) (aVar 4) (mA (eC (.non)))))
  (sRet (eAnd (mT (eOp2 (isNG false) (aVar 1) (mA (eC (.non))))) (eAnd (mT (eIsi ["list"] (aVar 2))) (eOp2 eqG (mA (mF (eCall (fun ds h => F_edits_text ds h) (fCons (eVar 2) fNil)))) (aVar 0)))))
  sNil)
  (sSeq (sSet 5 (eLst (fCons (mF (eIsX xs_BadEdit (aVar 1))) (fCons (mF (eIsX xs_NoMap (aVar 1))) (fCons (mF (eIsX xs_NoTile (aVar 1))) (fCons (mF (eNot (mT (eIsX xs_ValueError (aVar 1))))) fNil))))))
  (sRet (eAnd (mT (eIsX xs_NoText (aVar 1))) (eAnd (mT (eOp2 (inG true) (mA (eC (.bl true))) (aVar 5))) (eOp2 eqG (mA (mF (eOpN reprG (aCons (mA (mF (eFldX cs_row "row" (aVar 1)))) aNil)))) (mA (mF (eOpN reprG (aCons (aVar 4) aNil)))))))))))))
noncomputable def F__law_right : List D → List D → OutF := hide (bodyF 6 B__law_right)
theorem E__law_right (ds h : List D) : F__law_right ds h = (B__law_right ⟨ds.map .fz ++ List.replicate (6 - ds.length) .un, h⟩).res := by rw [show F__law_right = bodyF 6 B__law_right from hide_eq _, bodyF_ap]
theorem sc__law_right : FnScope ["_law_text_here", "_law_e", "_law_found", "error", "_law_due_here", "_law_other"] ["_law_text_here"] (defScope st__law_right) := ⟨rfl, rfl, rfl, by decide +kernel, rfl, by decide +kernel, by decide +kernel⟩
theorem bp__law_right {f : Addr} {fd : FuncData} (F : Dfn K mg "_law_right" "_law_right" st__law_right [] f fd) : BdP K fd ["_law_text_here"] 1 (fun ds => ds) := BdP.all F.fn fun _ _ _ _ _ _ us hl => match us, hl with | [_], _ => rfl
theorem fn__law_right {f : Addr} {fd : FuncData} (d : Dfn K mg "_law_right" "_law_right" st__law_right [] f fd) (B : Bt mg) (T : Txt w K mg) (c_edits_text : Has P w K mg base 7 "edits_text" "edits_text" st_edits_text [] ["edits"] F_edits_text) (c_read_edits : Has P w K mg base 6 "read_edits" "read_edits" st_read_edits [] ["text"] F_read_edits) (c__law_due : Has P w K mg base 4 "_law_due" "_law_due" st__law_due [] ["_law_text_here"] F__law_due) : FnG P w K mg base 8 f fd ["_law_text_here"] (spD K mg (["_law_text_here"] : List Str).length F__law_right) := by
  obtain ⟨D_BadEdit, m_BadEdit, I_BadEdit⟩ := T.is_BadEdit
  obtain ⟨D_NoMap, m_NoMap, I_NoMap⟩ := T.is_NoMap
  obtain ⟨D_NoText, m_NoText, I_NoText⟩ := T.is_NoText
  obtain ⟨D_NoTile, m_NoTile, I_NoTile⟩ := T.is_NoTile
  obtain ⟨C_WayError, m_WayError, ex_WayError⟩ := T.ex_WayError
  have nd := (sc__law_right).nd
  have h1 : ∀ (cdv : Value) (A : Around) (outer : List Env) (s : Shared) (H : Hp) (E : XK), A.guards = some [] → Room 7 (A.deeper (envOfC "_law_right" (defScope st__law_right) s.heap.objs.size f cdv)) → PSsD (cxOf (L2.CX P w) P w K mg base ["_law_text_here", "_law_e", "_law_found", "error", "_law_due_here", "_law_other"] "_law_right" (defScope st__law_right) f cdv A outer s H E) (defBody st__law_right) B__law_right := by
    intro cdv A outer s H E hgd hr
    have hu : (A.deeper (envOfC "_law_right" (defScope st__law_right) s.heap.objs.size f cdv)).units + 64 < cLine := by have := hr.un; omega
    exact (PSsD.cons (sUnpW (xTup (fC PD.non (fC PD.non f0))) (gT rfl (gC (gN 1 nd) (gC (gN 2 nd) PGsD.nil))))
  (PSsD.cons (PSD.tryAs (i := 3) rfl rfl rfl nd rfl rfl ⟨rfl, by decide, .inl m_WayError⟩ ex_WayError (fun _ _ pa => (PSsD.one (sSetN 2 nd (Has.call c_read_edits hgd hr (fun _ _ => bp_read_edits) (fC (nF 0) f0)))))
  (fun _ _ => (PSsD.one (sSetN 1 nd (fV (nF 3))))))
  (PSsD.cons (sSetN 4 nd (PD.ite (tVal (cIsi B B.str bb_str (nA 0))) (Has.call c__law_due hgd hr (fun _ _ => bp__law_due) (fC (nF 0) f0)) (fV PD.int)))
  (PSsD.cons (PSD.ite (tIs (nA 4) (fA PD.non))
  (PSsD.one (PSD.ret (PD.and (oIs (nA 1) (fA PD.non)) (PD.and (cIsi B B.list bb_list (nA 2)) (PD.and1 (oEq hu (fA (vF (Has.call c_edits_text hgd hr (fun _ _ => bp_edits_text) (fC (nF 2) f0)))) (nA 0)))))))
  PSsD.nil)
  (PSsD.cons (sSetN 5 nd (xLst (fC (vF (isXW B m_BadEdit I_BadEdit (nA 1))) (fC (vF (isXW B m_NoMap I_NoMap (nA 1))) (fC (vF (isXW B m_NoTile I_NoTile (nA 1))) (fC (vF (PD.not (isXB "ValueError" B B.ValueError bb_ValueError T.is_ValueError (nA 1)))) f0))))))
  (PSsD.one (PSD.ret (PD.and (isXW B m_NoText I_NoText (nA 1)) (PD.and (oNotIn (fA PD.bl) (nA 5)) (PD.and1 (oEq hu (fA (vF (cRepr B hgd hu (aC (fA (vF (fldW T.fl_row (nA 1)))) a0)))) (fA (vF (cRepr B hgd hu (aC (nA 4) a0)))))))))))))))
  have h2 := Dfn.ok d sc__law_right h1
  have h3 : FnG P w K mg base 8 f fd ["_law_text_here"] (spD K mg 1 (bodyF 6 B__law_right)) := h2
  have h4 : FnG P w K mg base 8 f fd ["_law_text_here"] (spD K mg 1 F__law_right) := by rw [show F__law_right = bodyF 6 B__law_right from hide_eq _]; exact h3
  exact h4
theorem ok__law_right (hd : ∃ f fd, Dfn K mg "_law_right" "_law_right" st__law_right [] f fd) (B : Bt mg) (T : Txt w K mg) (c_edits_text : Has P w K mg base 7 "edits_text" "edits_text" st_edits_text [] ["edits"] F_edits_text) (c_read_edits : Has P w K mg base 6 "read_edits" "read_edits" st_read_edits [] ["text"] F_read_edits) (c__law_due : Has P w K mg base 4 "_law_due" "_law_due" st__law_due [] ["_law_text_here"] F__law_due) : Has P w K mg base 8 "_law_right" "_law_right" st__law_right [] ["_law_text_here"] F__law_right := by
  obtain ⟨f, fd, d⟩ := hd
  exact ⟨⟨f, fd, d, fn__law_right d B T c_edits_text c_read_edits c__law_due⟩⟩
/-! _law_is_far: names 0:_law_text_here 1:_law_words_here 2:_law_word -/
noncomputable def L__law_is_far_1 : S → Ou Bool := (tAnd (mT (eCall (fun ds h => F__law_figures ds h) (fCons (eVar 2) (fCons (eC (.int 13)) fNil)))) (mT (eOp2 gtG (mA (mF (eOpN intG1 (aCons (aVar 2) aNil)))) (mA (mF (eOp2 powG (mA (eC (.int 10))) (mA (eC (.int 12)))))))))
theorem A__law_is_far_1 {r : List Sl} {h : List D} : L__law_is_far_1 ⟨r, h⟩ = (tAnd (mT (eCall (fun ds h => F__law_figures ds h) (fCons (eVar 2) (fCons (eC (.int 13)) fNil)))) (mT (eOp2 gtG (mA (mF (eOpN intG1 (aCons (aVar 2) aNil)))) (mA (mF (eOp2 powG (mA (eC (.int 10))) (mA (eC (.int 12))))))))) ⟨r, h⟩ := rfl
noncomputable def L__law_is_far_2 : S → Ou D := (eVar 2)
theorem A__law_is_far_2 {r : List Sl} {h : List D} : L__law_is_far_2 ⟨r, h⟩ = (eVar 2) ⟨r, h⟩ := rfl
noncomputable def B__law_is_far : S → OutS :=
  (sSeq (sSet 1 (eMeth "str" splitG (mA (mF (eMeth "str" joinG (mA (eC (.str " "))) (aCons (mA (mF (eMeth "str" splitG (aVar 0) (aCons (mA (eC (.str "\n"))) aNil)))) aNil)))) (aCons (mA (eC (.str " "))) aNil)))
  (sRet (eOp2 neG (mA (mF (eLc (iSeq (aVar 1)) [2] (gtName 2) L__law_is_far_1 L__law_is_far_2))) (mA (mF (eLst fNil))))))
noncomputable def F__law_is_far : List D → List D → OutF := hide (bodyF 3 B__law_is_far)
theorem E__law_is_far (ds h : List D) : F__law_is_far ds h = (B__law_is_far ⟨ds.map .fz ++ List.replicate (3 - ds.length) .un, h⟩).res := by rw [show F__law_is_far = bodyF 3 B__law_is_far from hide_eq _, bodyF_ap]
theorem sc__law_is_far : FnScope ["_law_text_here", "_law_words_here", "_law_word"] ["_law_text_here"] (defScope st__law_is_far) := ⟨rfl, rfl, rfl, by decide +kernel, rfl, by decide +kernel, by decide +kernel⟩
theorem bp__law_is_far {f : Addr} {fd : FuncData} (F : Dfn K mg "_law_is_far" "_law_is_far" st__law_is_far [] f fd) : BdP K fd ["_law_text_here"] 1 (fun ds => ds) := BdP.all F.fn fun _ _ _ _ _ _ us hl => match us, hl with | [_], _ => rfl
theorem fn__law_is_far {f : Addr} {fd : FuncData} (d : Dfn K mg "_law_is_far" "_law_is_far" st__law_is_far [] f fd) (B : Bt mg) (T : Txt w K mg) (c__law_figures : Has P w K mg base 1 "_law_figures" "_law_figures" st__law_figures [] ["_law_word", "_law_count"] F__law_figures) : FnG P w K mg base 2 f fd ["_law_text_here"] (spD K mg (["_law_text_here"] : List Str).length F__law_is_far) := by
  have nd := (sc__law_is_far).nd
  have h1 : ∀ (cdv : Value) (A : Around) (outer : List Env) (s : Shared) (H : Hp) (E : XK), A.guards = some [] → Room 1 (A.deeper (envOfC "_law_is_far" (defScope st__law_is_far) s.heap.objs.size f cdv)) → PSsD (cxOf (L2.CX P w) P w K mg base ["_law_text_here", "_law_words_here", "_law_word"] "_law_is_far" (defScope st__law_is_far) f cdv A outer s H E) (defBody st__law_is_far) B__law_is_far := by
    intro cdv A outer s H E hgd hr
    have hu : (A.deeper (envOfC "_law_is_far" (defScope st__law_is_far) s.heap.objs.size f cdv)).units + 64 < cLine := by have := hr.un; omega
    exact (PSsD.cons (sSetN 1 nd (mSplit (fA (vF (mJoin (fA PD.str) (aC (fA (vF (mSplit (nA 0) (aC (fA PD.str) a0)))) a0)))) (aC (fA PD.str) a0)))
  (PSsD.one (PSD.ret (oNe hu (fA (vF (lcW (g := (gName 2)) [("_law_word", 2)] rfl nd (iSeqW (nA 1)) (fun _ _ _ _ _ => (gN 2 nd)) (fun _ _ _ _ _ => (PTsD.one (PTD.of (PWD.and (tVal (Has.call c__law_figures hgd hr (fun _ _ => bp__law_figures) (fC (nF 2) (fC PD.int f0)))) (PWD.and1 (tGt (fA (vF (cInt B (aC (nA 2) a0)))) (fA (vF (oPow (fA PD.int) (fA PD.int)))))))))) (fun _ _ _ _ _ => (nF 2))))) (fA (vF (xLst f0)))))))
  have h2 := Dfn.ok d sc__law_is_far h1
  have h3 : FnG P w K mg base 2 f fd ["_law_text_here"] (spD K mg 1 (bodyF 3 B__law_is_far)) := h2
  have h4 : FnG P w K mg base 2 f fd ["_law_text_here"] (spD K mg 1 F__law_is_far) := by rw [show F__law_is_far = bodyF 3 B__law_is_far from hide_eq _]; exact h3
  exact h4
theorem ok__law_is_far (hd : ∃ f fd, Dfn K mg "_law_is_far" "_law_is_far" st__law_is_far [] f fd) (B : Bt mg) (T : Txt w K mg) (c__law_figures : Has P w K mg base 1 "_law_figures" "_law_figures" st__law_figures [] ["_law_word", "_law_count"] F__law_figures) : Has P w K mg base 2 "_law_is_far" "_law_is_far" st__law_is_far [] ["_law_text_here"] F__law_is_far := by
  obtain ⟨f, fd, d⟩ := hd
  exact ⟨⟨f, fd, d, fn__law_is_far d B T c__law_figures⟩⟩
/-! law: names 0:_law_script 1:_law_draw 2:_law_turn 3:_law_text_here 4:_law_spoil; shared: _law_draw -/
noncomputable def L_law_1 : S → OutS := (sSet 3 (eCall (fun ds h => F__law_spoilt ds h) (fCons (eVar 1) (fCons (eVar 3) fNil))))
theorem A_law_1 {r : List Sl} {h : List D} : L_law_1 ⟨r, h⟩ = (sSet 3 (eCall (fun ds h => F__law_spoilt ds h) (fCons (eVar 1) (fCons (eVar 3) fNil)))) ⟨r, h⟩ := rfl
noncomputable def L_law_2 : S → OutS := (sSeq (sSet 3 (eCall (fun ds h => F__law_text ds h) (fCons (mF (eCall (fun ds h => F__law_edits ds h) (fCons (eVar 1) (fCons (mF (eCall (fun ds h => F__law_next ds h) (fCons (eVar 1) (fCons (eC (.int 9)) fNil)))) fNil)))) fNil)))
  (sSeq (sFor (iRng1 (aCons (mA (mF (eCall (fun ds h => F__law_next ds h) (fCons (eVar 1) (fCons (eC (.int 4)) fNil))))) aNil)) (gtName 4) L_law_1)
  (sIf (tAnd (tNot (mT (eCall (fun ds h => F__law_is_far ds h) (fCons (eVar 3) fNil)))) (tNot (mT (eCall (fun ds h => F__law_right ds h) (fCons (eVar 3) fNil)))))
  (sRet (mV (eC (.bl false))))
  sNil)))
theorem A_law_2 {r : List Sl} {h : List D} : L_law_2 ⟨r, h⟩ = (sSeq (sSet 3 (eCall (fun ds h => F__law_text ds h) (fCons (mF (eCall (fun ds h => F__law_edits ds h) (fCons (eVar 1) (fCons (mF (eCall (fun ds h => F__law_next ds h) (fCons (eVar 1) (fCons (eC (.int 9)) fNil)))) fNil)))) fNil)))
  (sSeq (sFor (iRng1 (aCons (mA (mF (eCall (fun ds h => F__law_next ds h) (fCons (eVar 1) (fCons (eC (.int 4)) fNil))))) aNil)) (gtName 4) L_law_1)
  (sIf (tAnd (tNot (mT (eCall (fun ds h => F__law_is_far ds h) (fCons (eVar 3) fNil)))) (tNot (mT (eCall (fun ds h => F__law_right ds h) (fCons (eVar 3) fNil)))))
  (sRet (mV (eC (.bl false))))
  sNil))) ⟨r, h⟩ := rfl
noncomputable def B_law : S → OutS :=
  (sSeq (sSet 1 (mV (mH (eLst (fCons (mF (eOpN listG (aCons (aVar 0) aNil))) (fCons (eC (.int 0)) fNil))))))
  (sSeq (sFor (iRng1 (aCons (mA (mF (eOpN maxG (aCons (mA (eC (.int 1))) (aCons (mA (mF (eOpN minG (aCons (mA (eC (.int 8))) (aCons (mA (mF (eOpN lenG (aCons (aVar 0) aNil)))) aNil))))) aNil))))) aNil)) (gtName 2) L_law_2)
  (sRet (eCall (fun ds h => F__law_right ds h) (fCons (mF (eCall (fun ds h => F__law_pick ds h) (fCons (eVar 1) (fCons (mF (eLst (fCons (eC (.non)) (fCons (eC (.int 0)) (fCons (eC (.bl true)) (fCons (mF (eLst (fCons (eC (.str "5 a drop b")) fNil))) (fCons (eTup fNil) (fCons (mF (eC (.nd .dct [], true))) (fCons (eC (.int 7)) fNil))))))))) fNil)))) fNil)))))
noncomputable def F_law : List D → List D → OutF := hide (bodyF 5 B_law)
theorem E_law (ds h : List D) : F_law ds h = (B_law ⟨ds.map .fz ++ List.replicate (5 - ds.length) .un, h⟩).res := by rw [show F_law = bodyF 5 B_law from hide_eq _, bodyF_ap]
theorem sc_law : FnScope ["_law_script", "_law_draw", "_law_turn", "_law_text_here", "_law_spoil"] ["_law_script"] (defScope st_law) := ⟨rfl, rfl, rfl, by decide +kernel, rfl, by decide +kernel, by decide +kernel⟩
theorem bp_law {f : Addr} {fd : FuncData} (F : Dfn K mg "law" "law" st_law [] f fd) : BdP K fd ["_law_script"] 1 (fun ds => ds) := BdP.all F.fn fun _ _ _ _ _ _ us hl => match us, hl with | [_], _ => rfl
theorem fn_law {f : Addr} {fd : FuncData} (d : Dfn K mg "law" "law" st_law [] f fd) (B : Bt mg) (T : Txt w K mg) (c__law_next : Has P w K mg base 2 "_law_next" "_law_next" st__law_next [] ["_law_draw", "_law_size"] F__law_next) (c__law_pick : Has P w K mg base 3 "_law_pick" "_law_pick" st__law_pick [] ["_law_draw", "_law_choices"] F__law_pick) (c__law_edits : Has P w K mg base 5 "_law_edits" "_law_edits" st__law_edits [] ["_law_draw", "_law_many"] F__law_edits) (c__law_spoilt : Has P w K mg base 5 "_law_spoilt" "_law_spoilt" st__law_spoilt [] ["_law_draw", "_law_text_here"] F__law_spoilt) (c__law_text : Has P w K mg base 1 "_law_text" "_law_text" st__law_text [] ["_law_told"] F__law_text) (c__law_right : Has P w K mg base 8 "_law_right" "_law_right" st__law_right [] ["_law_text_here"] F__law_right) (c__law_is_far : Has P w K mg base 2 "_law_is_far" "_law_is_far" st__law_is_far [] ["_law_text_here"] F__law_is_far) : FnG P w K mg base 9 f fd ["_law_script"] (spD K mg (["_law_script"] : List Str).length F_law) := by
  have nd := (sc_law).nd
  have h1 : ∀ (cdv : Value) (A : Around) (outer : List Env) (s : Shared) (H : Hp) (E : XK), A.guards = some [] → Room 8 (A.deeper (envOfC "law" (defScope st_law) s.heap.objs.size f cdv)) → PSsD (cxOf (L2.CX P w) P w K mg base ["_law_script", "_law_draw", "_law_turn", "_law_text_here", "_law_spoil"] "law" (defScope st_law) f cdv A outer s H E) (defBody st_law) B_law := by
    intro cdv A outer s H E hgd hr
    have hu : (A.deeper (envOfC "law" (defScope st_law) s.heap.objs.size f cdv)).units + 64 < cLine := by have := hr.un; omega
    exact (PSsD.cons (sSetN 1 nd (fV (PD.hpz (xLst (fC (vF (cList B (aC (nA 0) a0))) (fC PD.int f0))))))
  (PSsD.cons (sForN (passes_of rfl) rfl (iRange B (aC (fA (vF (cMax B rfl (aC (fA PD.int) (aC (fA (vF (cMin B rfl (aC (fA PD.int) (aC (fA (vF (cLen B (aC (nA 0) a0)))) a0))))) a0))))) a0)) (gN 2 nd)
  (PSsD.cons (sSetN 3 nd (Has.call c__law_text hgd hr (fun _ _ => bp__law_text) (fC (vF (Has.call c__law_edits hgd hr (fun _ _ => bp__law_edits) (fC (nF 1) (fC (vF (Has.call c__law_next hgd hr (fun _ _ => bp__law_next) (fC (nF 1) (fC PD.int f0)))) f0)))) f0)))
  (PSsD.cons (sForN (passes_of rfl) rfl (iRange B (aC (fA (vF (Has.call c__law_next hgd hr (fun _ _ => bp__law_next) (fC (nF 1) (fC PD.int f0))))) a0)) (gN 4 nd)
  (PSsD.one (sSetN 3 nd (Has.call c__law_spoilt hgd hr (fun _ _ => bp__law_spoilt) (fC (nF 1) (fC (nF 3) f0))))))
  (PSsD.one (PSD.ite (PTD.of (PWD.and (PTD.not (tVal (Has.call c__law_is_far hgd hr (fun _ _ => bp__law_is_far) (fC (nF 3) f0)))) (PWD.and1 (PTD.not (tVal (Has.call c__law_right hgd hr (fun _ _ => bp__law_right) (fC (nF 3) f0)))))))
  (PSsD.one (PSD.ret (fV PD.bl)))
  PSsD.nil)))))
  (PSsD.one (PSD.ret (Has.call c__law_right hgd hr (fun _ _ => bp__law_right) (fC (vF (Has.call c__law_pick hgd hr (fun _ _ => bp__law_pick) (fC (nF 1) (fC (vF (xLst (fC PD.non (fC PD.int (fC PD.bl (fC (vF (xLst (fC PD.str f0))) (fC (xTup f0) (fC (vF PD.dct0) (fC PD.int f0))))))))) f0)))) f0))))))
  have h2 := Dfn.ok d sc_law h1
  have h3 : FnG P w K mg base 9 f fd ["_law_script"] (spD K mg 1 (bodyF 5 B_law)) := h2
  have h4 : FnG P w K mg base 9 f fd ["_law_script"] (spD K mg 1 F_law) := by rw [show F_law = bodyF 5 B_law from hide_eq _]; exact h3
  exact h4
theorem ok_law (hd : ∃ f fd, Dfn K mg "law" "law" st_law [] f fd) (B : Bt mg) (T : Txt w K mg) (c__law_next : Has P w K mg base 2 "_law_next" "_law_next" st__law_next [] ["_law_draw", "_law_size"] F__law_next) (c__law_pick : Has P w K mg base 3 "_law_pick" "_law_pick" st__law_pick [] ["_law_draw", "_law_choices"] F__law_pick) (c__law_edits : Has P w K mg base 5 "_law_edits" "_law_edits" st__law_edits [] ["_law_draw", "_law_many"] F__law_edits) (c__law_spoilt : Has P w K mg base 5 "_law_spoilt" "_law_spoilt" st__law_spoilt [] ["_law_draw", "_law_text_here"] F__law_spoilt) (c__law_text : Has P w K mg base 1 "_law_text" "_law_text" st__law_text [] ["_law_told"] F__law_text) (c__law_right : Has P w K mg base 8 "_law_right" "_law_right" st__law_right [] ["_law_text_here"] F__law_right) (c__law_is_far : Has P w K mg base 2 "_law_is_far" "_law_is_far" st__law_is_far [] ["_law_text_here"] F__law_is_far) : Has P w K mg base 9 "law" "law" st_law [] ["_law_script"] F_law := by
  obtain ⟨f, fd, d⟩ := hd
  exact ⟨⟨f, fd, d, fn_law d B T c__law_next c__law_pick c__law_edits c__law_spoilt c__law_text c__law_right c__law_is_far⟩⟩
end
end TD.K75


end
section
set_option maxRecDepth 100000
set_option maxHeartbeats 4000000
/-! TxA: plain facts about texts: splitting a join, figures. -/
namespace TD
open PySem PySem.NumText PyProof.Rows
/-- the signs of a text -/
abbrev sg (x : Str) : List Nat := x.cps.toList
theorem str_ext {x y : Str} (h : sg x = sg y) : x = y := Str.ext' (Array.toList_inj.mp h)
theorem sg_app (x y : Str) : sg (x ++ y) = sg x ++ sg y := by
  show (x.cps ++ y.cps).toList = _
  simp
theorem sg_len (x : Str) : (sg x).length = x.length := Array.length_toList
theorem sg_mk (l : List Nat) : sg ⟨l.toArray⟩ = l := by simp
theorem sg_lit (s : String) : sg (Str.ofString s) = s.toList.map Char.toNat := signs_ofString s
theorem app_uniq {c : Nat} : ∀ {a b r s : List Nat}, c ∉ a → c ∉ b → a ++ c :: r = b ++ c :: s → a = b ∧ r = s
  | [], [], _, _, _, _, h => by simp at h; exact ⟨rfl, h⟩
  | [], y :: b, _, _, _, hb, h => by
    simp at h
    exact absurd h.1 (fun e => hb (by simp [e]))
  | x :: a, [], _, _, ha, _, h => by
    simp at h
    exact absurd h.1 (fun e => ha (by simp [e]))
  | x :: a, y :: b, r, s, ha, hb, h => by
    simp at h
    obtain ⟨e, h⟩ := h
    obtain ⟨e1, e2⟩ := app_uniq (fun z => ha (List.mem_cons_of_mem _ z)) (fun z => hb (List.mem_cons_of_mem _ z)) h
    exact ⟨by rw [e, e1], e2⟩
theorem sg_join_cons (c : Nat) (x y : Str) (r : List Str) : sg (Str.join ⟨#[c]⟩ (x :: y :: r)) = sg x ++ c :: sg (Str.join ⟨#[c]⟩ (y :: r)) := by
  show sg (x ++ ⟨#[c]⟩ ++ Str.join ⟨#[c]⟩ (y :: r)) = _
  rw [sg_app, sg_app]
  simp [sg]
theorem not_mem_app {c : Nat} {a b : List Nat} (h : c ∉ a ++ c :: b) : False := h (by simp)
theorem join_uniq (c : Nat) : ∀ (ps qs : List Str), ps ≠ [] → qs ≠ [] → (∀ p ∈ ps, c ∉ sg p) → (∀ p ∈ qs, c ∉ sg p) → Str.join ⟨#[c]⟩ ps = Str.join ⟨#[c]⟩ qs → ps = qs
  | [], _, h, _, _, _, _ => absurd rfl h
  | _, [], _, h, _, _, _ => absurd rfl h
  | [p], [q], _, _, _, _, h => by rw [show p = q from h]
  | [p], q :: q' :: qs, _, _, hp, _, h => by
    have e := congrArg sg h
    rw [sg_join_cons] at e
    exact False.elim (not_mem_app (e ▸ hp p (List.mem_cons_self ..)))
  | p :: p' :: ps, [q], _, _, _, hq, h => by
    have e := congrArg sg h
    rw [sg_join_cons] at e
    exact False.elim (not_mem_app (e.symm ▸ hq q (List.mem_cons_self ..)))
  | p :: p' :: ps, q :: q' :: qs, _, _, hp, hq, h => by
    have e := congrArg sg h
    rw [sg_join_cons, sg_join_cons] at e
    obtain ⟨e1, e2⟩ := app_uniq (hp p (List.mem_cons_self ..)) (hq q (List.mem_cons_self ..)) e
    have := join_uniq c (p' :: ps) (q' :: qs) (by simp) (by simp) (fun z hz => hp z (List.mem_cons_of_mem _ hz)) (fun z hz => hq z (List.mem_cons_of_mem _ hz)) (str_ext e2)
    rw [str_ext e1, this]
/-- what is split was joined -/
theorem split_join (c : Nat) (ps : List Str) (h : ps ≠ []) (hf : ∀ p ∈ ps, c ∉ sg p) : Txt.split (Str.join ⟨#[c]⟩ ps) ⟨#[c]⟩ = ps := by
  refine join_uniq c _ _ ?_ h (StrLaws.split_free _ c) hf (StrLaws.join_split _ _)
  intro e
  have := split_pos (Str.join ⟨#[c]⟩ ps) ⟨#[c]⟩
  rw [e] at this
  exact absurd this (by simp)
theorem split_ne (x : Str) (c : Nat) : Txt.split x ⟨#[c]⟩ ≠ [] := fun e => by
  have := split_pos x ⟨#[c]⟩
  rw [e] at this
  exact absurd this (by simp)
/-- rows with their ends are the rows joined by ends, then nothing -/
theorem join_rows (c : Nat) : ∀ rs : List Str, Str.join Str.empty (rs.map (· ++ ⟨#[c]⟩)) = Str.join ⟨#[c]⟩ (rs ++ [Str.empty])
  | [] => rfl
  | [r] => by
    apply str_ext
    show sg (r ++ ⟨#[c]⟩) = sg (Str.join ⟨#[c]⟩ [r, Str.empty])
    rw [sg_join_cons, sg_app]
    rfl
  | r :: r' :: rs => by
    apply str_ext
    show sg (r ++ ⟨#[c]⟩ ++ Str.empty ++ Str.join Str.empty ((r' :: rs).map (· ++ ⟨#[c]⟩))) = sg (Str.join ⟨#[c]⟩ (r :: r' :: (rs ++ [Str.empty])))
    rw [sg_join_cons, join_rows c (r' :: rs), sg_app, sg_app, sg_app]
    simp [Str.empty, sg]
theorem join_eq (sep : Str) (xs : List Str) : Txt.join sep xs = Str.join sep xs := StrLaws.glued_eq_join sep xs
theorem lit_nl : (("\n" : String) : Str) = ⟨#[10]⟩ := by decide +kernel
theorem lit_sp : ((" " : String) : Str) = ⟨#[32]⟩ := by decide +kernel
theorem lit_e : (("" : String) : Str) = Str.empty := by decide +kernel
theorem join_nlen (sep : Str) (xs : List Str) : (Str.join sep xs).length ≤ (xs.map (·.length)).sum + xs.length * sep.length := StrLaws.join_length_le sep xs
theorem sum_le {xs : List Str} {B : Nat} (h : ∀ x ∈ xs, x.length ≤ B) : (xs.map (·.length)).sum ≤ xs.length * B := StrLaws.sumLen_le xs h
/-! ### figures -/
/-- a number's text -/
def numS (i : Int) : Str := Str.ofString (toString i)
theorem strG_num (i : Int) (h : i.natAbs < 2 ^ 64) : strG [.int i] = some (.str (numS i), false) := strG_int i h
theorem numS_nat (m : Nat) : sg (numS m) = (Nat.toDigits 10 m).map Char.toNat := PySem.W.KIN.signs_num m
theorem digits_head : ∀ (n : Nat), 0 < n → ∃ c r, Nat.toDigits 10 n = c :: r ∧ c ≠ '0' := by
  intro n
  induction n using Nat.strongRecOn with
  | _ n ih =>
    intro h
    by_cases hn : n < 10
    · refine ⟨n.digitChar, [], Nat.toDigits_of_lt_base hn, ?_⟩
      have : ∀ m, m < 10 → 0 < m → m.digitChar ≠ '0' := by decide
      exact this n hn h
    · rw [Nat.toDigits_of_base_le (by decide) (by omega)]
      obtain ⟨c, r, e, hc⟩ := ih (n / 10) (by omega) (by omega)
      exact ⟨c, r ++ [(n % 10).digitChar], by rw [e]; rfl, hc⟩
theorem toNat_ne {c : Char} (h : c ≠ '0') : c.toNat ≠ 48 := fun e => h (Char.toNat_inj.mp e)
theorem figs_all (m : Nat) : AllDigits (sg (numS m)) := by
  intro c hc
  rw [numS_nat] at hc
  obtain ⟨ch, hch, e⟩ := List.mem_map.mp hc
  have r := digit_range (Nat.isDigit_of_mem_toDigits (by decide) (by decide) hch)
  rw [← e]
  exact r
theorem figs_len {m k : Nat} (h : m < 10 ^ k) (hk : 0 < k) : (sg (numS m)).length ≤ k := by
  rw [numS_nat, List.length_map]
  exact (Nat.length_toDigits_le_iff (by decide) hk).mpr h
theorem figs_pos (m : Nat) : 1 ≤ (sg (numS m)).length := by
  rw [numS_nat, List.length_map]
  exact Nat.length_toDigits_pos
theorem figs_zero : numS 0 = ⟨#[48]⟩ := by decide +kernel
theorem figs_head {m : Nat} (h : 0 < m) : ∃ c r, sg (numS m) = c :: r ∧ c ≠ 48 := by
  obtain ⟨c, r, e, hc⟩ := digits_head m h
  refine ⟨c.toNat, r.map Char.toNat, ?_, toNat_ne hc⟩
  rw [numS_nat, e]
  rfl
theorem numS_reads {m : Nat} (h : m < 10 ^ 10) : PySem.intText? (numS m) = some (m : Int) := PySem.W.KIN.num_reads (by omega) (by omega)
end TD

end
section
set_option maxRecDepth 100000
set_option maxHeartbeats 4000000
/-! TxB: what the package's small functions compute, said plainly. -/
namespace TD
open PySem PySem.NumText PyProof.Rows
def SG : List Nat := sg (("abcdefghijklmnopqrstuvwxyz0123456789" : String) : Str)
def FG : List Nat := sg (("0123456789" : String) : Str)
def wiB (i lo hi : Int) : Bool := decide (lo ≤ i) && decide (i ≤ hi)
def nmB (x : Str) : Bool := (decide ((1 : Int) ≤ (x.length : Int)) && decide ((x.length : Int) ≤ 8)) && (sg x).all fun c => decide (c ∈ SG)
def stB (i : Int) : Bool := wiB i 0 1000000
def plB (i : Int) : Bool := wiB i 0 999
def rdB (a b c : Int) : Bool := plB a && (plB b && (!decide (a = b) && wiB c 1 1000000000))
/-- what an edit says -/
inductive Wt where
  | road (n : Str) (a b c : Int) | drop (n : Str) | ban (n m : Str) | free (n m : Str) | undo (i : Int) (n : Str)
def Wt.ds : Wt → List D
  | .road n a b c => [.str "road", .str n, .int a, .int b, .int c]
  | .drop n => [.str "drop", .str n]
  | .ban n m => [.str "ban", .str n, .str m]
  | .free n m => [.str "free", .str n, .str m]
  | .undo i n => [.str "undo", .int i, .str n]
def Wt.okB : Wt → Bool
  | .road n a b c => nmB n && (rdB a b c && decide (c ≤ 1000000))
  | .drop n => nmB n
  | .ban n m => nmB n && nmB m
  | .free n m => nmB n && nmB m
  | .undo i n => stB i && nmB n
/-- all names of an edit are texts of at most a line -/
def Wt.sz : Wt → Prop
  | .road n _ _ _ => n.length ≤ sizeLine
  | .drop n => n.length ≤ sizeLine
  | .ban n m => n.length ≤ sizeLine ∧ m.length ≤ sizeLine
  | .free n m => n.length ≤ sizeLine ∧ m.length ≤ sizeLine
  | .undo _ n => n.length ≤ sizeLine
structure Ed where
  st : Int
  hand : Str
  w : Wt
def Ed.d (e : Ed) : D := .nd .tup [.int e.st, .str e.hand, .nd .tup e.w.ds]
def Ed.okB (e : Ed) : Bool := stB e.st && (nmB e.hand && e.w.okB)
def Ed.sz (e : Ed) : Prop := e.hand.length ≤ sizeLine ∧ e.w.sz
theorem nmB_len {x : Str} (h : nmB x = true) : 1 ≤ x.length ∧ x.length ≤ 8 := by
  unfold nmB at h
  simp only [Bool.and_eq_true, decide_eq_true_eq] at h
  omega
theorem nmB_sz {x : Str} (h : nmB x = true) : x.length ≤ sizeLine := by
  have := nmB_len h
  rw [sizeLine_eq]
  omega
theorem Wt.okB_sz {w : Wt} (h : w.okB = true) : w.sz := by
  cases w <;> simp only [Wt.okB, Bool.and_eq_true] at h <;> simp only [Wt.sz] <;> first | exact nmB_sz h | exact nmB_sz h.1 | exact nmB_sz h.2 | exact ⟨nmB_sz h.1, nmB_sz h.2⟩
theorem Ed.okB_sz {e : Ed} (h : e.okB = true) : e.sz := by
  simp only [Ed.okB, Bool.and_eq_true] at h
  exact ⟨nmB_sz h.2.1, Wt.okB_sz h.2.2⟩
/-! words -/
def figB (most : Int) (x : Str) : Bool := ((decide ((1 : Int) ≤ (x.length : Int)) && decide ((x.length : Int) ≤ most)) && (sg x).all fun c => decide (c ∈ FG)) && (decide (x = ("0" : String)) || !decide ((sg x).head? = some 48))
/-- a number's worth -/
def valW (x : Str) : Int := ((digitsVal (sg x) : Nat) : Int)
theorem fg_iff {c : Nat} : c ∈ FG ↔ 48 ≤ c ∧ c ≤ 57 := by
  have e : FG = [48, 49, 50, 51, 52, 53, 54, 55, 56, 57] := by decide +kernel
  rw [e]
  simp
  omega
theorem figB_all {most : Int} {x : Str} (h : figB most x = true) : AllDigits (sg x) ∧ sg x ≠ [] ∧ 1 ≤ x.length ∧ (x.length : Int) ≤ most := by
  unfold figB at h
  simp only [Bool.and_eq_true, decide_eq_true_eq, List.all_eq_true] at h
  obtain ⟨⟨⟨h1, h2⟩, h3⟩, _⟩ := h
  refine ⟨fun c hc => fg_iff.mp (h3 c hc), fun e => ?_, by omega, h2⟩
  have := sg_len x
  rw [e] at this
  simp at this
  omega
theorem figB_int {most : Int} {x : Str} (h : figB most x = true) (hm : most ≤ 640) : intG1 [.str x] = some (.int (valW x), false) := by
  obtain ⟨h1, h2, h3, h4⟩ := figB_all h
  have e : PySem.intText? x = some (valW x) := intText_digits h1 h2 (by omega)
  unfold intG1
  dsimp only
  rw [if_pos (by omega), e]
def goodW (most : Int) (c : Nat) (w : Str) : Bool := if c = 100 then figB most w else nmB w
def valD (c : Nat) (w : Str) : D := if c = 100 then .int (valW w) else .str w
def toldO (most : Int) (form : List Nat) (ws : List Str) : Option (List D) :=
  if form.length ≠ ws.length then none else if (form.zip ws).all fun p => goodW most p.1 p.2 then some ((form.zip ws).map fun p => valD p.1 p.2) else none
def orN (o : Option (List D)) : D := match o with
  | some ds => .nd .tup ds
  | none => .non
/-- the edit that words tell, by form -/
def toEd (most : Int) : List Str → Option Ed
  | a :: b :: c :: r => if figB most a = true ∧ nmB b = true then
      (if c = ("road" : String) then (match r with
        | [n, x, y, z] => if nmB n = true ∧ figB most x = true ∧ figB most y = true ∧ figB most z = true then some ⟨valW a, b, .road n (valW x) (valW y) (valW z)⟩ else none
        | _ => none)
      else if c = ("drop" : String) then (match r with
        | [n] => if nmB n = true then some ⟨valW a, b, .drop n⟩ else none
        | _ => none)
      else if c = ("ban" : String) then (match r with
        | [n, m] => if nmB n = true ∧ nmB m = true then some ⟨valW a, b, .ban n m⟩ else none
        | _ => none)
      else if c = ("free" : String) then (match r with
        | [n, m] => if nmB n = true ∧ nmB m = true then some ⟨valW a, b, .free n m⟩ else none
        | _ => none)
      else if c = ("undo" : String) then (match r with
        | [i, n] => if figB most i = true ∧ nmB n = true then some ⟨valW a, b, .undo (valW i) n⟩ else none
        | _ => none)
      else none) else none
  | _ => none
def edD : Option Ed → D
  | some e => e.d
  | none => .non
/-! comprehensions and walks over typed items -/
theorem lcL_mapT {α : Type} {gd : Gd} {m : Tg} {fe : S → Ou D} {node : D} {vs : List Nat} {s0 sw : S} (f g : α → D) : ∀ (xs : List α) (acc : List D), (∀ x ∈ xs, ∃ s1 s3, m (f x) sw = some s1 ∧ fe s1 = .ok (g x) s3 ∧ gd.still node s3 = true ∧ s3.wipe vs = sw) → acc.length + xs.length ≤ sizeLine →
    lcL gd node vs s0 m (eC true) fe (xs.map f) acc sw = .ok (.nd .lst (acc ++ xs.map g), true) (gd.unlend node (S.back s0 sw vs))
  | [], acc, _, _ => by
    rw [List.map_nil, List.map_nil]
    unfold lcL
    rw [List.append_nil]
  | d :: ds, acc, h, hl => by
    obtain ⟨s1, s3, e1, e3, e5, e4⟩ := h d (List.mem_cons_self ..)
    rw [List.length_cons] at hl
    rw [List.map_cons, List.map_cons]
    unfold lcL
    rw [e1]
    dsimp only [eC]
    rw [e3]
    dsimp only
    rw [if_pos ⟨e5, by omega⟩, e4, lcL_mapT f g ds (acc ++ [g d]) (fun d' hd => h d' (List.mem_cons_of_mem _ hd)) (by rw [List.length_append, List.length_singleton]; omega), List.append_assoc]
    rfl
theorem lcL_filT {α : Type} {gd : Gd} {m : Tg} {fc : S → Ou Bool} {fe : S → Ou D} {node : D} {vs : List Nat} {s0 sw : S} (f g : α → D) (p : α → Bool) : ∀ (xs : List α) (acc : List D), (∀ x ∈ xs, ∃ s1 s2, m (f x) sw = some s1 ∧ fc s1 = .ok (p x) s2 ∧ ((p x = false ∧ gd.still node s2 = true ∧ s2.wipe vs = sw) ∨ (p x = true ∧ ∃ s3, fe s2 = .ok (g x) s3 ∧ gd.still node s3 = true ∧ s3.wipe vs = sw))) → acc.length + xs.length ≤ sizeLine →
    lcL gd node vs s0 m fc fe (xs.map f) acc sw = .ok (.nd .lst (acc ++ (xs.filter p).map g), true) (gd.unlend node (S.back s0 sw vs))
  | [], acc, _, _ => by
    rw [List.map_nil, List.filter_nil, List.map_nil]
    unfold lcL
    rw [List.append_nil]
  | d :: ds, acc, h, hl => by
    obtain ⟨s1, s2, e1, e2, e3⟩ := h d (List.mem_cons_self ..)
    rw [List.length_cons] at hl
    rw [List.map_cons]
    unfold lcL
    rw [e1]
    dsimp only
    rw [e2]
    rcases e3 with ⟨ep, e5, e4⟩ | ⟨ep, s3, e3, e5, e4⟩
    · rw [ep]
      dsimp only
      rw [if_pos e5, e4, lcL_filT f g p ds acc (fun d' hd => h d' (List.mem_cons_of_mem _ hd)) (by omega), List.filter_cons_of_neg (by simp [ep])]
    · rw [ep]
      dsimp only
      rw [e3]
      dsimp only
      rw [if_pos ⟨e5, by omega⟩, e4, lcL_filT f g p ds (acc ++ [g d]) (fun d' hd => h d' (List.mem_cons_of_mem _ hd)) (by rw [List.length_append, List.length_singleton]; omega), List.append_assoc, List.filter_cons_of_pos (by simp [ep])]
      rfl
theorem zipD_map {α β : Type} (f : α → D) (g : β → D) : ∀ (xs : List α) (ys : List β), zipD (xs.map f) (ys.map g) = (xs.zip ys).map fun p => .nd .tup [f p.1, g p.2]
  | [], _ => by simp [zipD]
  | _ :: _, [] => by simp [zipD]
  | x :: xs, y :: ys => by
    rw [List.map_cons, List.map_cons, List.zip_cons_cons, List.map_cons]
    unfold zipD
    rw [zipD_map f g xs ys]
/-- a walk over numbered items, by what is left -/
def enumT {α : Type} : Nat → List α → List (Nat × α)
  | _, [] => []
  | n, x :: xs => (n, x) :: enumT (n + 1) xs
theorem enumD_map {α : Type} (f : α → D) : ∀ (xs : List α) (n : Nat), enumD n (xs.map f) = (enumT n xs).map fun p => .nd .tup [.int (p.1 : Int), f p.2]
  | [], n => rfl
  | x :: xs, n => by
    rw [List.map_cons]
    unfold enumD enumT
    rw [enumD_map f xs (n + 1)]
    rfl
@[simp] theorem still_own {i : Nat} {lk : Bool} {node : D} {s : S} : Gd.still (.sl i lk) node s = true := by unfold Gd.still; rfl
theorem strsD_map : ∀ ws : List Str, strsD (ws.map .str) = some ws
  | [] => rfl
  | w :: ws => by
    rw [List.map_cons]
    unfold strsD
    rw [strsD_map ws]
theorem joinG_lst (a : Str) (ws : List Str) (h : (ws.map (·.length)).sum + ws.length * a.length ≤ 16777216) : joinG (.str a) [.nd .lst (ws.map .str)] = some (.str (Str.join a ws), false) := by
  unfold joinG
  simp only [seqD_lst, strsD_map]
  rw [if_pos h, join_eq]
theorem splitG_one (x : Str) (c : Nat) (h : x.length + 2 ≤ sizeLine) : splitG (.str x) [.str ⟨#[c]⟩] = some (.nd .lst ((Txt.split x ⟨#[c]⟩).map .str), true) := by
  unfold splitG
  dsimp only
  rw [if_pos ⟨rfl, h⟩]
/-- a slot that isn't lent -/
def Sl.nl : Sl → Bool
  | .own true _ => false
  | _ => true
@[simp] theorem nl_un : Sl.un.nl = true := rfl
@[simp] theorem nl_fz (d : D) : (Sl.fz d).nl = true := rfl
@[simp] theorem gt1_nl {i : Nat} {r : List Sl} {h : List D} {d : D} {a : Sl} (ha : a.nl = true) : gt1 i r h d (some a) = some ⟨r.set i (.fz d), h⟩ := by
  cases a with
  | own lk e => cases lk <;> first | rfl | cases ha
  | _ => rfl
@[simp] theorem pt1_nl {i : Nat} {r : List Sl} {h : List D} {x a : Sl} (ha : a.nl = true) : pt1 i r h x (some a) = .nx ⟨r.set i x, h⟩ := by
  cases a with
  | own lk e => cases lk <;> first | rfl | cases ha
  | _ => rfl
/-- the first that isn't so -/
def firstBad {α : Type} (p : α → Bool) : Nat → List α → Option Nat
  | _, [] => none
  | n, d :: ds => if p d = true then firstBad p (n + 1) ds else some n
/-- a word of a row -/
def wD : Int ⊕ Str → D
  | .inl i => .int i
  | .inr x => .str x
def wS : Int ⊕ Str → Str
  | .inl i => numS i
  | .inr x => x
/-- an edit's words -/
def Wt.ws : Wt → List (Int ⊕ Str)
  | .road n a b c => [.inr "road", .inr n, .inl a, .inl b, .inl c]
  | .drop n => [.inr "drop", .inr n]
  | .ban n m => [.inr "ban", .inr n, .inr m]
  | .free n m => [.inr "free", .inr n, .inr m]
  | .undo i n => [.inr "undo", .inl i, .inr n]
def Ed.ws (e : Ed) : List (Int ⊕ Str) := .inl e.st :: .inr e.hand :: e.w.ws
theorem Wt.ws_ds (w : Wt) : w.ws.map wD = w.ds := by cases w <;> rfl
theorem Ed.ws_ds (e : Ed) : e.ws.map wD = .int e.st :: .str e.hand :: e.w.ds := by
  unfold Ed.ws
  rw [List.map_cons, List.map_cons, Wt.ws_ds]
  rfl
theorem Wt.ws_len (w : Wt) : w.ws.length ≤ 5 := by cases w <;> simp [Wt.ws]
theorem Wt.ds_ne (w : Wt) : w.ds ≠ [] := by cases w <;> simp [Wt.ds]
theorem Wt.ds_len (w : Wt) : w.ds.length ≤ 5 := by cases w <;> simp [Wt.ds]
theorem wiB_iff {i lo hi : Int} : wiB i lo hi = true ↔ lo ≤ i ∧ i ≤ hi := by simp [wiB]
theorem numS_len {i : Int} (h0 : 0 ≤ i) (h1 : i < 10 ^ 10) : (numS i).length ≤ 10 := by
  obtain ⟨m, rfl⟩ := Int.eq_ofNat_of_zero_le h0
  rw [← sg_len]
  exact figs_len (k := 10) (by omega) (by decide)
/-- words of edits are small -/
def okW : Int ⊕ Str → Prop
  | .inl i => 0 ≤ i ∧ i < 10 ^ 10
  | .inr x => x.length ≤ 10
theorem Wt.ws_ok {w : Wt} (h : w.okB = true) : ∀ x ∈ w.ws, okW x := by
  have k1 : ∀ {n : Str}, nmB n = true → n.length ≤ 10 := fun h => by have := nmB_len h; omega
  intro x hx
  cases w <;> simp only [Wt.okB, Bool.and_eq_true, rdB, plB, stB, wiB_iff, decide_eq_true_eq] at h <;> simp only [Wt.ws, List.mem_cons, List.not_mem_nil, or_false] at hx
  · rcases hx with rfl | rfl | rfl | rfl | rfl
    · show (Str.ofString "road").length ≤ 10; decide +kernel
    · exact k1 h.1
    · exact ⟨h.2.1.1.1, by omega⟩
    · exact ⟨h.2.1.2.1.1, by omega⟩
    · exact ⟨by omega, by omega⟩
  · rcases hx with rfl | rfl
    · show (Str.ofString "drop").length ≤ 10; decide +kernel
    · exact k1 h
  · rcases hx with rfl | rfl | rfl
    · show (Str.ofString "ban").length ≤ 10; decide +kernel
    · exact k1 h.1
    · exact k1 h.2
  · rcases hx with rfl | rfl | rfl
    · show (Str.ofString "free").length ≤ 10; decide +kernel
    · exact k1 h.1
    · exact k1 h.2
  · rcases hx with rfl | rfl | rfl
    · show (Str.ofString "undo").length ≤ 10; decide +kernel
    · exact ⟨h.1.1, by omega⟩
    · exact k1 h.2
theorem Ed.ws_ok {e : Ed} (h : e.okB = true) : ∀ x ∈ e.ws, okW x := by
  simp only [Ed.okB, Bool.and_eq_true, stB, wiB_iff] at h
  intro x hx
  simp only [Ed.ws, List.mem_cons] at hx
  rcases hx with rfl | rfl | hx
  · exact ⟨h.1.1, by omega⟩
  · have := nmB_len h.2.1
    show e.hand.length ≤ 10
    omega
  · exact Wt.ws_ok h.2.2 x hx
theorem okW_len {x : Int ⊕ Str} (h : okW x) : (wS x).length ≤ 10 := by
  cases x with
  | inl i => exact numS_len h.1 h.2
  | inr x => exact h
def rowS (ws : List Str) : Str := Str.join (Str.ofString " ") ws ++ Str.ofString "\n"
def Ed.row (e : Ed) : Str := rowS (e.ws.map wS)
def eds_text (es : List Ed) : Str := Str.join Str.empty (es.map Ed.row)
theorem rowS_len (ws : List Str) (h : ∀ w ∈ ws, w.length ≤ 10) : (rowS ws).length ≤ ws.length * 11 + 1 := by
  unfold rowS
  rw [Str.length_append]
  have h1 := join_nlen (Str.ofString " ") ws
  have h2 := sum_le h
  have e1 : (Str.ofString " ").length = 1 := by decide +kernel
  have e2 : (Str.ofString "\n").length = 1 := by decide +kernel
  rw [e1] at h1
  omega
theorem Ed.row_len {e : Ed} (h : e.okB = true) : e.row.length ≤ 78 := by
  have := rowS_len (e.ws.map wS) fun w hw => by
    obtain ⟨x, hx, rfl⟩ := List.mem_map.mp hw
    exact okW_len (Ed.ws_ok h x hx)
  have h2 := Wt.ws_len e.w
  rw [List.length_map] at this
  unfold Ed.ws at this
  simp only [List.length_cons] at this
  unfold Ed.row Ed.ws
  omega
theorem eds_text_len {es : List Ed} (h : ∀ e ∈ es, e.okB = true) : (eds_text es).length ≤ es.length * 78 := by
  unfold eds_text
  have h1 := join_nlen Str.empty (es.map Ed.row)
  have h2 : ((es.map Ed.row).map (·.length)).sum ≤ (es.map Ed.row).length * 78 := sum_le fun x hx => by
    obtain ⟨e, he, rfl⟩ := List.mem_map.mp hx
    exact Ed.row_len (h e he)
  have e1 : Str.empty.length = 0 := rfl
  rw [e1] at h1
  rw [List.length_map] at h2
  omega
end TD

end
section
set_option maxRecDepth 100000
set_option maxHeartbeats 4000000
/-! P1: is_within .. is_edit. -/
namespace TD.K75
open PySem PySem.NumText PyProof.Rows
theorem is_within_ev (i lo hi : Int) (h : List D) : F_is_within [.int i, .int lo, .int hi] h = .ok (.bl (wiB i lo hi)) false h := by
  rw [E_is_within]
  by_cases h1 : lo ≤ i <;> simp [B_is_within, h1, wiB]
theorem is_place_ev (i : Int) (h : List D) : F_is_place [.int i] h = .ok (.bl (plB i)) false h := by
  rw [E_is_place]
  simp [B_is_place, is_within_ev, plB]
theorem is_stamp_ev (i : Int) (h : List D) : F_is_stamp [.int i] h = .ok (.bl (stB i)) false h := by
  rw [E_is_stamp]
  by_cases h1 : 0 ≤ i <;> simp [B_is_stamp, h1, stB, wiB]
theorem is_name_lc (x : Str) (h : List D) (hx : x.length ≤ sizeLine) : eLc (iStr (aVar 0)) [1] (gtName 1) (eC true) L_is_name_1 ⟨[.fz (.str x), .un], h⟩ =
    .ok (.nd .lst ((sg x).map fun c => .bl (decide (c ∈ SG))), true) ⟨[.fz (.str x), .un], h⟩ := by
  simp
  rw [lcL_mapT (fun c => .str ⟨#[c]⟩) (fun c => .bl (decide (c ∈ SG))) _ _ _ (by rw [List.length_nil, Nat.zero_add]; exact sg_len x ▸ hx)]
  · simp
  · intro c hc
    simp [L_is_name_1, inG, SG]
theorem is_name_ev (x : Str) (h : List D) (hx : x.length ≤ sizeLine) : F_is_name [.str x] h = .ok (.bl (nmB x)) false h := by
  have e := is_name_lc x h hx
  have e1 := allG_map (fun c => decide (c ∈ SG)) (sg x)
  rw [E_is_name]
  by_cases h1 : (1 : Int) ≤ (x.length : Int) <;> by_cases h2 : (x.length : Int) ≤ 8 <;> simp [B_is_name, h1, h2, hx, nmB, -eLc_ap, e, e1]
theorem is_road_ev (a b c : Int) (h : List D) : F_is_road [.nd .tup [.int a, .int b, .int c]] h = .ok (.bl (rdB a b c)) false h := by
  rw [E_is_road]
  unfold rdB
  have e1 := is_place_ev a
  have e2 := is_place_ev b
  generalize plB a = p at *
  generalize plB b = q at *
  cases p <;> cases q <;> by_cases h1 : a = b <;> simp [B_is_road, is_within_ev, e1, e2, h1]
theorem is_what_lc (ws : List Str) (a b : D) (h : List D) (hw : ∀ w ∈ ws, w.length ≤ sizeLine) (hl : ws.length ≤ sizeLine) : eLc (iSeq (aVar 2)) [3] (gtName 3) (eC true) L_is_what_1 ⟨[.fz a, .fz b, .own false (.nd .lst (ws.map .str)), .un], h⟩ =
    .ok (.nd .lst (ws.map fun w => .bl (nmB w)), true) ⟨[.fz a, .fz b, .own false (.nd .lst (ws.map .str)), .un], h⟩ := by
  simp
  rw [lcL_mapT D.str (fun w => .bl (nmB w)) _ _ _ (by simpa using hl)]
  · simp
  · intro w hm
    simp [L_is_what_1, is_name_ev w h (hw w hm)]
@[simp] theorem len_road : tabAt tb_LENGTHS ("road" : String) = some (.int 5) := rfl
@[simp] theorem len_drop : tabAt tb_LENGTHS ("drop" : String) = some (.int 2) := rfl
@[simp] theorem len_ban : tabAt tb_LENGTHS ("ban" : String) = some (.int 3) := rfl
@[simp] theorem len_free : tabAt tb_LENGTHS ("free" : String) = some (.int 3) := rfl
@[simp] theorem len_undo : tabAt tb_LENGTHS ("undo" : String) = some (.int 3) := rfl
theorem is_what_ev (w : Wt) (h : List D) (hw : w.sz) : F_is_what [.nd .tup w.ds] h = .ok (.bl w.okB) false h := by
  rw [E_is_what]
  cases w with
  | road n a b c =>
    have e1 := is_name_ev n h hw
    have e2 := is_road_ev a b c h
    simp only [Wt.okB]
    generalize nmB n = p at *
    generalize rdB a b c = q at *
    cases p <;> cases q <;> simp [Wt.ds, B_is_what, e1, e2, List.replicate]
  | drop n =>
    have e := is_what_lc [n] (.nd .tup (Wt.drop n).ds) (.str "drop") h (by simpa [Wt.sz] using hw) (by simp [sizeLine_eq])
    have e1 := allG_map nmB [n]
    have n1 : ¬ ((("drop" : String) : Str) = ("road" : String)) := by decide +kernel
    have n2 : ¬ ((("drop" : String) : Str) = ("undo" : String)) := by decide +kernel
    simp only [Wt.ds, List.map] at e
    simp at e1
    simp [Wt.ds, B_is_what, List.replicate, -eLc_ap, e, e1, n1, n2, Wt.okB]
  | ban n m =>
    have e := is_what_lc [n, m] (.nd .tup (Wt.ban n m).ds) (.str "ban") h (by simpa [Wt.sz] using hw) (by simp [sizeLine_eq])
    have e1 := allG_map nmB [n, m]
    have n1 : ¬ ((("ban" : String) : Str) = ("road" : String)) := by decide +kernel
    have n2 : ¬ ((("ban" : String) : Str) = ("undo" : String)) := by decide +kernel
    simp only [Wt.ds, List.map] at e
    simp at e1
    simp [Wt.ds, B_is_what, List.replicate, -eLc_ap, e, e1, n1, n2, Wt.okB]
  | free n m =>
    have e := is_what_lc [n, m] (.nd .tup (Wt.free n m).ds) (.str "free") h (by simpa [Wt.sz] using hw) (by simp [sizeLine_eq])
    have e1 := allG_map nmB [n, m]
    have n1 : ¬ ((("free" : String) : Str) = ("road" : String)) := by decide +kernel
    have n2 : ¬ ((("free" : String) : Str) = ("undo" : String)) := by decide +kernel
    simp only [Wt.ds, List.map] at e
    simp at e1
    simp [Wt.ds, B_is_what, List.replicate, -eLc_ap, e, e1, n1, n2, Wt.okB]
  | undo i n =>
    have e1 := is_stamp_ev i h
    have e2 := is_name_ev n h hw
    have n1 : ¬ ((("undo" : String) : Str) = ("road" : String)) := by decide +kernel
    simp only [Wt.okB]
    generalize stB i = p at *
    generalize nmB n = q at *
    cases p <;> cases q <;> simp [Wt.ds, B_is_what, e1, e2, n1, List.replicate]
theorem is_edit_ev (e : Ed) (h : List D) (hw : e.sz) : F_is_edit [e.d] h = .ok (.bl e.okB) false h := by
  rw [E_is_edit]
  have e1 := is_stamp_ev e.st h
  have e2 := is_name_ev e.hand h hw.1
  have e3 := is_what_ev e.w h hw.2
  unfold Ed.okB Ed.d
  generalize stB e.st = p at *
  generalize nmB e.hand = q at *
  generalize e.w.okB = r at *
  cases p <;> cases q <;> cases r <;> simp [B_is_edit, e1, e2, e3]
end TD.K75

end
section
set_option maxRecDepth 100000
set_option maxHeartbeats 4000000
/-! P2: need_edits, edits_text. -/
namespace TD.K75
open PySem PySem.NumText PyProof.Rows
theorem need_loop {gd : Gd} {node x : D} {h : List D} (hs : ∀ r, gd.still node ⟨r, h⟩ = true) (hu : ∀ s, gd.unlend node s = s) (p : D → Bool) : ∀ (ds : List D) (n : Nat) (a b : Sl), a.nl = true → b.nl = true → (∀ d ∈ ds, F_is_edit [d] h = .ok (.bl (p d)) false h) →
    ∃ a' b', forL gd node (gtTup 2 (gtCons (gtName 1) (gtCons (gtName 2) gtNil))) L_need_edits_1 (enumD n ds) ⟨[.fz x, a, b], h⟩ = (match firstBad p n ds with
      | none => OutS.nx ⟨[.fz x, a', b'], h⟩
      | some i => OutS.ex ⟨"BadEdit", ["at"], [.int (i : Int)]⟩ ⟨[.fz x, a', b'], h⟩)
  | [], n, a, b, _, _, _ => ⟨a, b, by unfold enumD forL firstBad; rw [hu]⟩
  | d :: ds, n, a, b, ha, hb, hd => by
    have e := hd d (List.mem_cons_self ..)
    unfold enumD forL firstBad
    cases hp : p d with
    | false =>
      rw [hp] at e
      refine ⟨.fz (.int (n : Int)), .fz d, ?_⟩
      simp [L_need_edits_1, ha, hb, e, hs, hu]
    | true =>
      rw [hp] at e
      obtain ⟨a', b', e2⟩ := need_loop (x := x) hs hu p ds (n + 1) (.fz (.int (n : Int))) (.fz d) rfl rfl fun d' hd' => hd d' (List.mem_cons_of_mem _ hd')
      refine ⟨a', b', ?_⟩
      simp [L_need_edits_1, ha, hb, e, hs]
      exact e2
/-- need_edits of a list or tuple, frozen or shared -/
theorem need_edits_ev (x : D) (ds h : List D) (p : D → Bool) (hx : x = .nd .lst ds ∨ x = .nd .tup ds ∨ ∃ n, x = .ref n ∧ h[n]? = some (.nd .lst ds)) (hd : ∀ d ∈ ds, F_is_edit [d] h = .ok (.bl (p d)) false h) :
    F_need_edits [x] h = (match firstBad p 0 ds with
      | none => .ok .non false h
      | some i => .ex ⟨"BadEdit", ["at"], [.int (i : Int)]⟩ h) := by
  rw [E_need_edits]
  rcases hx with rfl | rfl | ⟨n, rfl, hn⟩
  · obtain ⟨a', b', e⟩ := need_loop (gd := .non) (node := .nd .lst ds) (x := .nd .lst ds) (fun _ => still_non) (fun _ => unlend_non) p ds 0 .un .un rfl rfl hd
    simp [B_need_edits, List.replicate, e]
    cases firstBad p 0 ds <;> rfl
  · obtain ⟨a', b', e⟩ := need_loop (gd := .non) (node := .nd .tup ds) (x := .nd .tup ds) (fun _ => still_non) (fun _ => unlend_non) p ds 0 .un .un rfl rfl hd
    simp [B_need_edits, List.replicate, e]
    cases firstBad p 0 ds <;> rfl
  · obtain ⟨a', b', e⟩ := need_loop (gd := .hp n) (node := .nd .lst ds) (x := .ref n) (fun _ => still_hp.mpr hn) (fun _ => rfl) p ds 0 .un .un rfl rfl hd
    simp [B_need_edits, List.replicate, hn, e]
    cases firstBad p 0 ds <;> rfl
theorem need_edits_no (x : D) (h : List D) (T : String) (hx : ∀ r, S.look ⟨r, h⟩ (.v x) = some x) (ht : tyName x = some T) (h1 : isiB T "list" = false) (h2 : isiB T "tuple" = false) : F_need_edits [x] h = .ex ⟨"BadEdit", ["at"], [.int 0]⟩ h := by
  rw [E_need_edits]
  simp [B_need_edits, List.replicate, hx, ht, -isiB_eq, h1, h2]
/-! rows -/
theorem row_text_ev (k : Kd) (hk : k = .tup ∨ k = .lst) (ws : List (Int ⊕ Str)) (h : List D) (hi : ∀ i, .inl i ∈ ws → i.natAbs < 2 ^ 64) (hl : ws.length ≤ 1000) (hz : ((ws.map wS).map (·.length)).sum + ws.length ≤ 1000000) :
    F_row_text [.nd k (ws.map wD)] h = .ok (.str (rowS (ws.map wS))) false h := by
  rw [E_row_text]
  have e : eLc (iSeq (aVar 0)) [1] (gtName 1) (eC true) L_row_text_1 ⟨[.fz (.nd k (ws.map wD)), .un], h⟩ = .ok (.nd .lst ((ws.map wS).map .str), true) ⟨[.fz (.nd k (ws.map wD)), .un], h⟩ := by
    have e2 : lcL .non (.nd k (ws.map wD)) [1] ⟨[.fz (.nd k (ws.map wD)), .un], h⟩ (gtName 1) (eC true) L_row_text_1 (ws.map wD) [] ⟨[.fz (.nd k (ws.map wD)), .un], h⟩ = .ok (.nd .lst ([] ++ ws.map fun w => .str (wS w)), true) (Gd.unlend .non (.nd k (ws.map wD)) (S.back ⟨[.fz (.nd k (ws.map wD)), .un], h⟩ ⟨[.fz (.nd k (ws.map wD)), .un], h⟩ [1])) := by
      refine lcL_mapT wD (fun w => .str (wS w)) _ _ ?_ (by rw [sizeLine_eq]; simp; omega)
      intro w hw
      cases w with
      | inl i => simp [L_row_text_1, wD, wS, strG_num i (hi i hw)]
      | inr x => simp [L_row_text_1, wD, wS]
    rcases hk with rfl | rfl <;> (simp; simp at e2; rw [e2]; simp)
  have el : (((ws.map wS).map (·.length)).sum + (ws.map wS).length * (Str.ofString " ").length ≤ 16777216) := by
    have : (Str.ofString " ").length = 1 := by decide +kernel
    rw [this, List.length_map]
    omega
  have ej := joinG_lst (Str.ofString " ") (ws.map wS) el
  have ez : (Str.join (Str.ofString " ") (ws.map wS)).length + (Str.ofString "\n").length ≤ sizeLine := by
    have h1 := join_nlen (Str.ofString " ") (ws.map wS)
    have e1 : (Str.ofString " ").length = 1 := by decide +kernel
    have e2 : (Str.ofString "\n").length = 1 := by decide +kernel
    rw [sizeLine_eq]
    rw [List.length_map, e1] at h1
    omega
  simp [B_row_text, List.replicate, -eLc_ap, e, -List.map_map, ej, ez, rowS]
end TD.K75

end
section
set_option maxRecDepth 100000
set_option maxHeartbeats 4000000
/-! P3: words read. -/
namespace TD.K75
open PySem PySem.NumText PyProof.Rows
theorem is_figures_lc (x : Str) (m : D) (h : List D) (hx : x.length ≤ sizeLine) : eLc (iStr (aVar 0)) [2] (gtName 2) (eC true) L_is_figures_1 ⟨[.fz (.str x), .fz m, .un], h⟩ =
    .ok (.nd .lst ((sg x).map fun c => .bl (decide (c ∈ FG))), true) ⟨[.fz (.str x), .fz m, .un], h⟩ := by
  simp
  rw [lcL_mapT (fun c => .str ⟨#[c]⟩) (fun c => .bl (decide (c ∈ FG))) _ _ _ (by rw [List.length_nil, Nat.zero_add]; exact sg_len x ▸ hx)]
  · simp
  · intro c hc
    simp [L_is_figures_1, inG, FG]
theorem ixG_s0 (x : Str) (hx : x.length ≤ sizeLine) (c : Nat) (r : List Nat) (e : sg x = c :: r) : ixG (.str x) (.int 0) = some (.str ⟨#[c]⟩, false) := by
  unfold ixG
  dsimp only
  rw [if_pos hx, show L2.atI x.cps.toList 0 = some c from by rw [show x.cps.toList = c :: r from e]; exact atI_nat (c :: r) 0 c rfl]
theorem str0 : (("0" : String) : Str) = ⟨#[48]⟩ := by decide +kernel
theorem is_figures_ev (x : Str) (most : Int) (h : List D) (hx : x.length ≤ sizeLine) : F_is_figures [.str x, .int most] h = .ok (.bl (figB most x)) false h := by
  have e := is_figures_lc x (.int most) h hx
  have e1 := allG_map (fun c => decide (c ∈ FG)) (sg x)
  rw [E_is_figures]
  by_cases h1 : (1 : Int) ≤ (x.length : Int)
  · obtain ⟨c, r, ec⟩ : ∃ c r, sg x = c :: r := by
      cases eg : sg x with
      | nil =>
        have := sg_len x
        rw [eg] at this
        simp at this
        omega
      | cons c r => exact ⟨c, r, rfl⟩
    have ei := ixG_s0 x hx c r ec
    have en : neG (.str ⟨#[c]⟩) (.str (Str.ofString "0")) = some (.bl (!decide (c = 48)), false) := by
      rw [neG_str, str0]
      simp
    by_cases h2 : (x.length : Int) ≤ most
    · cases ha : (sg x).all fun c => decide (c ∈ FG) with
      | false =>
        rw [ha] at e1
        unfold figB
        rw [ha]
        simp [B_is_figures, h1, h2, hx, -eLc_ap, e, e1]
      | true =>
        rw [ha] at e1
        unfold figB
        rw [ha]
        by_cases h3 : x = Str.ofString "0"
        · have e4 : eqG (.str x) (.str (Str.ofString "0")) = some (.bl true, false) := by rw [eqG_str, decide_eq_true h3]
          rw [decide_eq_true h3]
          simp [B_is_figures, h1, h2, hx, -eLc_ap, e, e1, -eqG_str, e4]
        · have e4 : eqG (.str x) (.str (Str.ofString "0")) = some (.bl false, false) := by rw [eqG_str, decide_eq_false h3]
          rw [decide_eq_false h3, ec]
          simp [B_is_figures, h1, h2, hx, -eLc_ap, e, e1, -eqG_str, e4, ei, -neG_str, en]
    · simp [B_is_figures, h1, h2, hx, -eLc_ap, figB]
  · simp [B_is_figures, h1, hx, -eLc_ap, figB]
theorem told_lc1 (fm : Str) (ws : List Str) (most : Int) (h : List D) (hw : ∀ w ∈ ws, w.length ≤ sizeLine) (hl : ws.length ≤ sizeLine) (a : Sl) :
    eLc (iZip (fCons (eVar 0) (fCons (eVar 1) fNil))) [4, 5] (gtTup 2 (gtCons (gtName 4) (gtCons (gtName 5) gtNil))) (eC true) L_told_by_1 ⟨[.fz (.str fm), .fz (.nd .lst (ws.map .str)), .fz (.int most), a, .un, .un], h⟩ =
    .ok (.nd .lst (((sg fm).zip ws).map fun p => .bl (goodW most p.1 p.2)), true) ⟨[.fz (.str fm), .fz (.nd .lst (ws.map .str)), .fz (.int most), a, .un, .un], h⟩ := by
  have ez : zipD (signsD fm) (ws.map .str) = ((sg fm).zip ws).map fun p => D.nd .tup [.str ⟨#[p.1]⟩, .str p.2] := zipD_map (fun c => .str ⟨#[c]⟩) D.str (sg fm) ws
  simp [ez]
  rw [lcL_mapT (fun p : Nat × Str => D.nd .tup [.str ⟨#[p.1]⟩, .str p.2]) (fun p => .bl (goodW most p.1 p.2))]
  · simp
  · rintro ⟨c, w⟩ hm
    have hw' := hw w (List.of_mem_zip hm).2
    by_cases hc : c = 100
    · subst hc
      have ed : Str.ofString "d" = ⟨#[100]⟩ := by decide +kernel
      simp [L_told_by_1, goodW, ed, is_figures_ev w most h hw']
    · have ed : ¬ ((⟨#[c]⟩ : Str) = Str.ofString "d") := by
        rw [show Str.ofString "d" = ⟨#[100]⟩ from by decide +kernel]
        intro e
        injection e with e
        simp at e
        exact hc e
      simp [L_told_by_1, goodW, ed, hc, is_name_ev w h hw']
  · rw [List.length_nil, List.length_zip]
    omega
theorem told_lc2 (fm : Str) (ws : List Str) (most : Int) (h : List D) (hm : most ≤ 640) (hg : ∀ p ∈ (sg fm).zip ws, goodW most p.1 p.2 = true) (hl : ws.length ≤ sizeLine) (a : Sl) :
    eLc (iZip (fCons (eVar 0) (fCons (eVar 1) fNil))) [4, 5] (gtTup 2 (gtCons (gtName 4) (gtCons (gtName 5) gtNil))) (eC true) L_told_by_2 ⟨[.fz (.str fm), .fz (.nd .lst (ws.map .str)), .fz (.int most), a, .un, .un], h⟩ =
    .ok (.nd .lst (((sg fm).zip ws).map fun p => valD p.1 p.2), true) ⟨[.fz (.str fm), .fz (.nd .lst (ws.map .str)), .fz (.int most), a, .un, .un], h⟩ := by
  have ez : zipD (signsD fm) (ws.map .str) = ((sg fm).zip ws).map fun p => D.nd .tup [.str ⟨#[p.1]⟩, .str p.2] := zipD_map (fun c => .str ⟨#[c]⟩) D.str (sg fm) ws
  simp [ez]
  rw [lcL_mapT (fun p : Nat × Str => D.nd .tup [.str ⟨#[p.1]⟩, .str p.2]) (fun p => valD p.1 p.2)]
  · simp
  · rintro ⟨c, w⟩ hz
    have hg' := hg _ hz
    by_cases hc : c = 100
    · subst hc
      have ed : Str.ofString "d" = ⟨#[100]⟩ := by decide +kernel
      have ef : figB most w = true := by simpa [goodW] using hg'
      simp [L_told_by_2, valD, ed, figB_int ef hm]
    · have ed : ¬ ((⟨#[c]⟩ : Str) = Str.ofString "d") := by
        rw [show Str.ofString "d" = ⟨#[100]⟩ from by decide +kernel]
        intro e
        injection e with e
        simp at e
        exact hc e
      simp [L_told_by_2, valD, ed, hc]
  · rw [List.length_nil, List.length_zip]
    omega
theorem told_by_ev (fm : Str) (ws : List Str) (most : Int) (h : List D) (hf : fm.length ≤ 1000) (hm : most ≤ 640) (hw : ∀ w ∈ ws, w.length ≤ sizeLine) (hl : ws.length ≤ sizeLine) :
    F_told_by [.str fm, .nd .lst (ws.map .str), .int most] h = .ok (orN (toldO most (sg fm) ws)) false h := by
  have hf2 : fm.length ≤ sizeLine := by rw [sizeLine_eq]; omega
  unfold toldO
  rw [E_told_by, sg_len]
  by_cases e : fm.length = ws.length
  · have e1 := told_lc1 fm ws most h hw hl .un
    have ea := allG_map (fun p : Nat × Str => goodW most p.1 p.2) ((sg fm).zip ws)
    cases hg : ((sg fm).zip ws).all fun p => goodW most p.1 p.2 with
    | false =>
      rw [hg] at ea
      simp [B_told_by, List.replicate, hf2, e, hl, -eLc_ap, e1, ea, orN]
    | true =>
      rw [hg] at ea
      have e2 := told_lc2 fm ws most h hm (List.all_eq_true.mp hg) hl (.own false (.nd .lst (((sg fm).zip ws).map fun p => .bl (goodW most p.1 p.2))))
      simp [B_told_by, List.replicate, hf2, e, hl, -eLc_ap, e1, ea, e2, orN]
  · have e' : ¬ ((fm.length : Int) = (ws.length : Int)) := by omega
    simp [B_told_by, List.replicate, hf2, e, e', -eLc_ap, orN]
end TD.K75

end
section
set_option maxRecDepth 100000
set_option maxHeartbeats 4000000
/-! P4: rows, edits read. -/
namespace TD.K75
open PySem PySem.NumText PyProof.Rows
theorem rows_of_ev (t : Str) (ps : List Str) (q : Str) (h : List D) (ht : t.length + 2 ≤ sizeLine) (e : Txt.split t ⟨#[10]⟩ = ps ++ [q]) : F_rows_of [.str t] h = .ok (.nd .tup [.nd .lst (ps.map .str), .str q]) false h := by
  rw [E_rows_of]
  have es : splitG (.str t) [.str (Str.ofString "\n")] = some (.nd .lst (ps.map .str ++ [.str q]), true) := by
    rw [lit_nl, splitG_one t 10 ht, e]
    simp
  have e1 : List.take ps.length (ps.map D.str ++ [D.str q]) = ps.map D.str := by
    rw [List.take_append_of_le_length (by simp)]
    exact List.take_of_length_le (by simp)
  have e2 : List.drop ps.length (ps.map D.str ++ [D.str q]) = [D.str q] := by
    rw [List.drop_append_of_le_length (by simp)]
    simp
  simp [B_rows_of, List.replicate, es, e1, e2]
theorem rows_of_no (x : D) (h : List D) (T : String) (hx : ∀ r, S.look ⟨r, h⟩ (.v x) = some x) (ht : tyName x = some T) (h1 : isiB T "str" = false) : F_rows_of [x] h = .ex ⟨"NoText", ["row"], [.int 0]⟩ h := by
  rw [E_rows_of]
  simp [B_rows_of, List.replicate, hx, ht, -isiB_eq, h1]
@[simp] theorem fm_road : tabAt tb_FORMS ("road" : String) = some (.str ("nddd" : String)) := rfl
@[simp] theorem fm_drop : tabAt tb_FORMS ("drop" : String) = some (.str ("n" : String)) := rfl
@[simp] theorem fm_ban : tabAt tb_FORMS ("ban" : String) = some (.str ("nn" : String)) := rfl
@[simp] theorem fm_free : tabAt tb_FORMS ("free" : String) = some (.str ("nn" : String)) := rfl
@[simp] theorem fm_undo : tabAt tb_FORMS ("undo" : String) = some (.str ("dn" : String)) := rfl
theorem fm_none {c : Str} (h1 : ¬ c = ("road" : String)) (h2 : ¬ c = ("drop" : String)) (h3 : ¬ c = ("ban" : String)) (h4 : ¬ c = ("free" : String)) (h5 : ¬ c = ("undo" : String)) : tabAt tb_FORMS c = none := by
  have k : ∀ y : Str, ¬ c = y → (y == c) = false := fun y h => beq_eq_false_iff_ne.mpr fun z => h z.symm
  simp only [tb_FORMS, tabAt, k _ h1, k _ h2, k _ h3, k _ h4, k _ h5]
  rfl
/-- what the words' parts make -/
def bothD (c : Str) : Option (List D) → Option (List D) → D
  | some x, some y => .nd .tup (x ++ [.nd .tup (.str c :: y)])
  | _, _ => .non
theorem edit_told_at (a b c : Str) (r : List Str) (fm : Str) (most : Int) (h : List D) (hm : most ≤ 640) (hw : ∀ w ∈ a :: b :: c :: r, w.length ≤ sizeLine) (hl : r.length ≤ 16000000) (hr : r ≠ []) (hc : tabAt tb_FORMS c = some (.str fm)) (hf : fm.length ≤ 1000) (hf1 : fm.length ≠ 0) :
    F_edit_told [.nd .lst ((a :: b :: c :: r).map .str), .int most] h = .ok (bothD c (toldO most (sg ("dn" : String)) [a, b]) (toldO most (sg fm) r)) false h := by
  rw [E_edit_told]
  have e1 := told_by_ev ("dn" : String) [a, b] most h (by decide +kernel) hm (fun w hw' => hw w (by simp at hw' ⊢; rcases hw' with rfl | rfl <;> simp)) (by simp [sizeLine_eq])
  have e2 := told_by_ev fm r most h hf hm (fun w hw' => hw w (by simp [hw'])) (by rw [sizeLine_eq]; omega)
  have n1 : ¬ ((r.length : Int) + 1 + 1 + 1 < 4) := by
    have : r.length ≠ 0 := fun z => hr (List.length_eq_zero_iff.mp z)
    omega
  have c1 : cutL (D.str a :: D.str b :: D.str c :: r.map D.str) none (some 2) = [D.str a, D.str b] := by
    unfold cutL HT.sIx
    simp
  have c2 : cutL (D.str a :: D.str b :: D.str c :: r.map D.str) (some 3) none = r.map D.str := by
    unfold cutL HT.sIx
    simp
    exact List.take_of_length_le (by simp)
  have k2 : ∀ ds, toldO most (sg fm) r = some ds → ds ≠ [] ∧ ds.length ≤ 1000 := by
    intro ds hd
    unfold toldO at hd
    split at hd
    · cases hd
    · rename_i hz
      split at hd
      · cases hd
        have hz : (sg fm).length = r.length := by omega
        rw [sg_len] at hz
        refine ⟨fun z => ?_, ?_⟩
        · have := congrArg List.length z
          rw [List.length_map, List.length_zip, sg_len, List.length_nil] at this
          omega
        · rw [List.length_map, List.length_zip, sg_len]
          omega
      · cases hd
  have k1 : ∀ ds, toldO most (sg ("dn" : String)) [a, b] = some ds → ds.length = 2 := by
    intro ds hd
    unfold toldO at hd
    split at hd
    · cases hd
    · split at hd
      · cases hd
        have : (sg ("dn" : String)).length = 2 := by decide +kernel
        rw [List.length_map, List.length_zip, this]
        rfl
      · cases hd
  simp at e1
  cases h1 : toldO most (sg ("dn" : String)) [a, b] with
  | none =>
    rw [h1] at e1
    simp [B_edit_told, List.replicate, n1, hc, c1, c2, e1, e2, orN, bothD]
  | some x =>
    cases h2 : toldO most (sg fm) r with
    | none => simp [B_edit_told, List.replicate, n1, hc, c1, c2, e1, e2, h1, h2, orN, bothD]
    | some y =>
      obtain ⟨k3, k4⟩ := k2 y h2
      have k5 := k1 x h1
      have k6 : x ≠ [] := fun z => by rw [z] at k5; cases k5
      have z1 : 1 + y.length ≤ sizeLine := by rw [sizeLine_eq]; omega
      have z2 : x.length + 1 ≤ sizeLine := by rw [sizeLine_eq]; omega
      simp [B_edit_told, List.replicate, n1, hc, c1, c2, e1, e2, h1, h2, orN, bothD, k3, k6, z1, z2]
theorem edit_told_short (ws : List Str) (most : Int) (h : List D) (hl : ws.length < 4) : F_edit_told [.nd .lst (ws.map .str), .int most] h = .ok .non false h := by
  rw [E_edit_told]
  have n1 : ((ws.length : Int) < 4) := by omega
  simp [B_edit_told, List.replicate, n1]
theorem edit_told_none (a b c x : Str) (r : List Str) (most : Int) (h : List D) (hc : tabAt tb_FORMS c = none) : F_edit_told [.nd .lst ((a :: b :: c :: x :: r).map .str), .int most] h = .ok .non false h := by
  rw [E_edit_told]
  have n1 : ¬ ((r.length : Int) + 1 + 1 + 1 + 1 < 4) := by omega
  simp [B_edit_told, List.replicate, n1, hc]
theorem dn_told (most : Int) (a b : Str) : toldO most (sg ("dn" : String)) [a, b] = if figB most a = true ∧ nmB b = true then some [.int (valW a), .str b] else none := by
  have e : sg ("dn" : String) = [100, 110] := by decide +kernel
  rw [e]
  simp [toldO, goodW, valD]
theorem n_told (most : Int) (a : Str) : toldO most (sg ("n" : String)) [a] = if nmB a = true then some [.str a] else none := by
  have e : sg ("n" : String) = [110] := by decide +kernel
  rw [e]
  simp [toldO, goodW, valD]
theorem nn_told (most : Int) (a b : Str) : toldO most (sg ("nn" : String)) [a, b] = if nmB a = true ∧ nmB b = true then some [.str a, .str b] else none := by
  have e : sg ("nn" : String) = [110, 110] := by decide +kernel
  rw [e]
  simp [toldO, goodW, valD]
theorem nddd_told (most : Int) (n a b c : Str) : toldO most (sg ("nddd" : String)) [n, a, b, c] = if nmB n = true ∧ figB most a = true ∧ figB most b = true ∧ figB most c = true then some [.str n, .int (valW a), .int (valW b), .int (valW c)] else none := by
  have e : sg ("nddd" : String) = [110, 100, 100, 100] := by decide +kernel
  rw [e]
  simp [toldO, goodW, valD]
theorem told_len (most : Int) (fm : Str) (k : Nat) (hk : fm.length = k) (r : List Str) (h : r.length ≠ k) : toldO most (sg fm) r = none := by
  unfold toldO
  rw [if_pos (by rw [sg_len, hk]; exact fun z => h z.symm)]
theorem edit_told_ev (ws : List Str) (most : Int) (h : List D) (hm : most ≤ 640) (hw : ∀ w ∈ ws, w.length ≤ sizeLine) (hl : ws.length ≤ 16000000) : F_edit_told [.nd .lst (ws.map .str), .int most] h = .ok (edD (toEd most ws)) false h := by
  rcases ws with _ | ⟨a, _ | ⟨b, _ | ⟨c, _ | ⟨x, r⟩⟩⟩⟩
  · exact edit_told_short _ most h (by decide)
  · exact edit_told_short _ most h (by simp)
  · exact edit_told_short _ most h (by simp)
  · rw [edit_told_short _ most h (by simp)]
    have : toEd most [a, b, c] = none := by simp [toEd]
    rw [this]
    rfl
  · have hlr : (x :: r).length ≤ 16000000 := by simp at hl ⊢; omega
    have key : ∀ fm : Str, tabAt tb_FORMS c = some (.str fm) → fm.length ≤ 1000 → fm.length ≠ 0 → _ := fun fm hc hf hf1 => edit_told_at a b c (x :: r) fm most h hm hw hlr (by simp) hc hf hf1
    unfold toEd
    by_cases h1 : c = ("road" : String)
    · subst h1
      rw [key _ fm_road (by decide +kernel) (by decide +kernel), dn_told]
      dsimp only
      rw [if_pos rfl]
      rcases r with _ | ⟨y, _ | ⟨z, _ | ⟨v, _ | ⟨t, r⟩⟩⟩⟩
      · rw [told_len most _ 4 (by decide +kernel) _ (by simp)]; split <;> rfl
      · rw [told_len most _ 4 (by decide +kernel) _ (by simp)]; split <;> rfl
      · rw [told_len most _ 4 (by decide +kernel) _ (by simp)]; split <;> rfl
      · rw [nddd_told]
        congr 1
        split
        · dsimp only
          split <;> rfl
        · rfl
      · rw [told_len most _ 4 (by decide +kernel) _ (by simp)]; split <;> rfl
    by_cases h2 : c = ("drop" : String)
    · subst h2
      rw [key _ fm_drop (by decide +kernel) (by decide +kernel), dn_told]
      dsimp only
      rw [if_neg h1, if_pos rfl]
      rcases r with _ | ⟨y, r⟩
      · rw [n_told]
        congr 1
        split
        · dsimp only
          split <;> rfl
        · rfl
      · rw [told_len most _ 1 (by decide +kernel) _ (by simp)]; split <;> rfl
    by_cases h3 : c = ("ban" : String)
    · subst h3
      rw [key _ fm_ban (by decide +kernel) (by decide +kernel), dn_told]
      dsimp only
      rw [if_neg h1, if_neg h2, if_pos rfl]
      rcases r with _ | ⟨y, _ | ⟨z, r⟩⟩
      · rw [told_len most _ 2 (by decide +kernel) _ (by simp)]; split <;> rfl
      · rw [nn_told]
        congr 1
        split
        · dsimp only
          split <;> rfl
        · rfl
      · rw [told_len most _ 2 (by decide +kernel) _ (by simp)]; split <;> rfl
    by_cases h4 : c = ("free" : String)
    · subst h4
      rw [key _ fm_free (by decide +kernel) (by decide +kernel), dn_told]
      dsimp only
      rw [if_neg h1, if_neg h2, if_neg h3, if_pos rfl]
      rcases r with _ | ⟨y, _ | ⟨z, r⟩⟩
      · rw [told_len most _ 2 (by decide +kernel) _ (by simp)]; split <;> rfl
      · rw [nn_told]
        congr 1
        split
        · dsimp only
          split <;> rfl
        · rfl
      · rw [told_len most _ 2 (by decide +kernel) _ (by simp)]; split <;> rfl
    by_cases h5 : c = ("undo" : String)
    · subst h5
      rw [key _ fm_undo (by decide +kernel) (by decide +kernel), dn_told]
      dsimp only
      rw [if_neg h1, if_neg h2, if_neg h3, if_neg h4, if_pos rfl]
      rcases r with _ | ⟨y, _ | ⟨z, r⟩⟩
      · rw [told_len most _ 2 (by decide +kernel) _ (by simp)]; split <;> rfl
      · rw [dn_told]
        congr 1
        split
        · dsimp only
          split <;> rfl
        · rfl
      · rw [told_len most _ 2 (by decide +kernel) _ (by simp)]; split <;> rfl
    rw [edit_told_none a b c x r most h (fm_none h1 h2 h3 h4 h5)]
    dsimp only
    rw [if_neg h1, if_neg h2, if_neg h3, if_neg h4, if_neg h5]
    split <;> rfl
/-! read_edits -/
/-- the edits of rows, or the place of the first row that is none -/
def readR (most : Int) : Nat → List Str → Nat ⊕ List Ed
  | _, [] => .inr []
  | n, w :: ws => match toEd most (Txt.split w ⟨#[32]⟩) with
    | some e => if e.okB = true then (match readR most (n + 1) ws with
      | .inl k => .inl k
      | .inr es => .inr (e :: es)) else .inl n
    | none => .inl n
theorem toEd_sz {most : Int} {ws : List Str} {e : Ed} (h : toEd most ws = some e) : e.sz := by
  unfold toEd at h
  split at h
  · split at h
    · rename_i h0
      have hb := nmB_sz h0.2
      split at h
      · split at h
        · split at h
          · cases h
            rename_i hz
            exact ⟨hb, nmB_sz hz.1⟩
          · cases h
        · cases h
      · split at h
        · split at h
          · split at h
            · cases h
              rename_i hz
              exact ⟨hb, nmB_sz hz⟩
            · cases h
          · cases h
        · split at h
          · split at h
            · split at h
              · cases h
                rename_i hz
                exact ⟨hb, nmB_sz hz.1, nmB_sz hz.2⟩
              · cases h
            · cases h
          · split at h
            · split at h
              · split at h
                · cases h
                  rename_i hz
                  exact ⟨hb, nmB_sz hz.1, nmB_sz hz.2⟩
                · cases h
              · cases h
            · split at h
              · split at h
                · split at h
                  · cases h
                    rename_i hz
                    exact ⟨hb, nmB_sz hz.2⟩
                  · cases h
                · cases h
              · cases h
    · cases h
  · cases h
end TD.K75

end
section
set_option maxRecDepth 100000
set_option maxHeartbeats 4000000
/-! P5: edits_text, read_edits. -/
namespace TD.K75
open PySem PySem.NumText PyProof.Rows
/-- a list or tuple, frozen, or a shared list -/
def SeqAt (x : D) (ds h : List D) : Prop := x = .nd .lst ds ∨ x = .nd .tup ds ∨ ∃ n, x = .ref n ∧ h[n]? = some (.nd .lst ds)
theorem firstBad_ok {α : Type} {p : α → Bool} : ∀ (ds : List α) (n : Nat), (∀ d ∈ ds, p d = true) → firstBad p n ds = none
  | [], _, _ => rfl
  | d :: ds, n, h => by
    unfold firstBad
    rw [if_pos (h d (List.mem_cons_self ..)), firstBad_ok ds (n + 1) fun d' hd => h d' (List.mem_cons_of_mem _ hd)]
theorem need_edits_ok (x : D) (es : List Ed) (h : List D) (hx : SeqAt x (es.map Ed.d) h) (ok : ∀ e ∈ es, e.okB = true) : F_need_edits [x] h = .ok .non false h := by
  rw [need_edits_ev x (es.map Ed.d) h (fun _ => true) hx, firstBad_ok _ _ fun _ _ => rfl]
  intro d hd
  obtain ⟨e, he, rfl⟩ := List.mem_map.mp hd
  rw [is_edit_ev e h (Ed.okB_sz (ok e he)), ok e he]
theorem edit_row_ev (e : Ed) (h : List D) (ok : e.okB = true) : F_row_text [.nd .tup (.int e.st :: .str e.hand :: e.w.ds)] h = .ok (.str e.row) false h := by
  rw [← Ed.ws_ds]
  refine row_text_ev .tup (.inl rfl) e.ws h (fun i hi => ?_) ?_ ?_
  · have := Ed.ws_ok ok _ hi
    simp only [okW] at this
    omega
  · have := Wt.ws_len e.w
    simp only [Ed.ws, List.length_cons]
    omega
  · have h1 : ((e.ws.map wS).map (·.length)).sum ≤ (e.ws.map wS).length * 10 := sum_le fun y hy => by
      obtain ⟨z, hz, rfl⟩ := List.mem_map.mp hy
      exact okW_len (Ed.ws_ok ok z hz)
    have := Wt.ws_len e.w
    rw [List.length_map] at h1
    have e2 : e.ws.length = e.w.ws.length + 2 := rfl
    omega
theorem edits_text_ev (x : D) (es : List Ed) (h : List D) (hx : SeqAt x (es.map Ed.d) h) (ok : ∀ e ∈ es, e.okB = true) (hl : es.length ≤ 100000) : F_edits_text [x] h = .ok (.str (eds_text es)) false h := by
  have e0 := need_edits_ok x es h hx ok
  rw [E_edits_text]
  have el : ∀ (gd : Gd) (node : D) (s0 : S), (∀ r, gd.still node ⟨r, h⟩ = true) → lcL gd node [1, 2, 3] s0 (gtTup 3 (gtCons (gtName 1) (gtCons (gtName 2) (gtCons (gtName 3) gtNil)))) (eC true) L_edits_text_1 (es.map Ed.d) [] ⟨[.fz x, .un, .un, .un], h⟩ = .ok (.nd .lst ((es.map Ed.row).map .str), true) (gd.unlend node (S.back s0 ⟨[.fz x, .un, .un, .un], h⟩ [1, 2, 3])) := by
    intro gd node s0 hs
    rw [lcL_mapT Ed.d (fun e => .str e.row)]
    · simp
    · intro e he
      have := edit_row_ev e h (ok e he)
      have hn := Wt.ds_ne e.w
      have hl2 := Wt.ds_len e.w
      have hz : 2 + e.w.ds.length ≤ sizeLine := by rw [sizeLine_eq]; omega
      simp [L_edits_text_1, Ed.d, hn, hz, this, hs]
    · rw [sizeLine_eq, List.length_nil]
      omega
  have ej := joinG_lst (Str.ofString "") (es.map Ed.row) (by
    have h2 : ((es.map Ed.row).map (·.length)).sum ≤ (es.map Ed.row).length * 78 := sum_le fun x hx => by
      obtain ⟨e, he, rfl⟩ := List.mem_map.mp hx
      exact Ed.row_len (ok e he)
    have e1 : (Str.ofString "").length = 0 := by decide +kernel
    rw [e1]
    rw [List.length_map] at h2
    omega)
  rw [lit_e] at ej
  rcases hx with rfl | rfl | ⟨n, rfl, hn⟩
  · have := el .non (.nd .lst (es.map Ed.d)) ⟨[.fz (.nd .lst (es.map Ed.d)), .un, .un, .un], h⟩ fun _ => still_non
    simp [B_edits_text, List.replicate, e0, -List.map_map, this, ej, eds_text, lit_e]
  · have := el .non (.nd .tup (es.map Ed.d)) ⟨[.fz (.nd .tup (es.map Ed.d)), .un, .un, .un], h⟩ fun _ => still_non
    simp [B_edits_text, List.replicate, e0, -List.map_map, this, ej, eds_text, lit_e]
  · have := el (.hp n) (.nd .lst (es.map Ed.d)) ⟨[.fz (.ref n), .un, .un, .un], h⟩ fun _ => still_hp.mpr hn
    simp [B_edits_text, List.replicate, e0, hn, -List.map_map, this, ej, eds_text, lit_e]
theorem edits_text_ex (x : D) (h : List D) (e : Xn) (he : F_need_edits [x] h = .ex e h) : F_edits_text [x] h = .ex e h := by
  rw [E_edits_text]
  simp [B_edits_text, List.replicate, he]
/-! reading -/
theorem is_edit_no (x : D) (h : List D) (T : String) (hx : ∀ r, S.look ⟨r, h⟩ (.v x) = some x) (ht : tyName x = some T) (h1 : isiB T "tuple" = false) : F_is_edit [x] h = .ok (.bl false) false h := by
  rw [E_is_edit]
  simp [B_is_edit, List.replicate, hx, ht, -isiB_eq, h1]
theorem is_edit_len (ds : List D) (h : List D) (hl : ds.length ≠ 3) : F_is_edit [.nd .tup ds] h = .ok (.bl false) false h := by
  rw [E_is_edit]
  have : ¬ ((ds.length : Int) = 3) := by omega
  simp [B_is_edit, List.replicate, this]
theorem split_words {w : Str} {c : Nat} : (∀ a ∈ Txt.split w ⟨#[c]⟩, a.length ≤ w.length) ∧ (Txt.split w ⟨#[c]⟩).length ≤ w.length + 2 := ⟨fun a ha => part_short ha, split_le w _⟩
theorem edD_ref (o : Option Ed) : ∀ n, edD o ≠ .ref n := by
  intro n e
  cases o <;> cases e
theorem read_loop (x0 x1 x2 : D) (h : List D) : ∀ (rows : List Str) (n : Nat) (acc : List D) (a b c : Sl), a.nl = true → b.nl = true → c.nl = true → (∀ w ∈ rows, w.length ≤ 10000000) → acc.length + rows.length ≤ 10000002 →
    ∃ acc' a' b' c', forL .non x1 (gtTup 2 (gtCons (gtName 4) (gtCons (gtName 5) gtNil))) L_read_edits_1 (enumD n (rows.map .str)) ⟨[.fz x0, .fz x1, .fz x2, .own false (.nd .lst acc), a, b, c], h⟩ = (match readR 13 n rows with
      | .inl k => OutS.ex ⟨"NoText", ["row"], [.int (k : Int)]⟩ ⟨[.fz x0, .fz x1, .fz x2, .own false (.nd .lst acc'), a', b', c'], h⟩
      | .inr es => OutS.nx ⟨[.fz x0, .fz x1, .fz x2, .own false (.nd .lst (acc ++ es.map Ed.d)), a', b', c'], h⟩)
  | [], n, acc, a, b, c, _, _, _, _, _ => ⟨acc, a, b, c, by
    rw [List.map_nil]
    unfold enumD forL readR
    simp⟩
  | w :: rows, n, acc, a, b, c, ha, hb, hc, hw, hl => by
    have hz := hw w (List.mem_cons_self ..)
    rw [List.length_cons] at hl
    have es : splitG (.str w) [.str (Str.ofString " ")] = some (.nd .lst ((Txt.split w ⟨#[32]⟩).map .str), true) := by
      rw [lit_sp]
      exact splitG_one w 32 (by rw [sizeLine_eq]; omega)
    obtain ⟨k1, k2⟩ := split_words (w := w) (c := 32)
    have e1 := edit_told_ev (Txt.split w ⟨#[32]⟩) 13 h (by decide) (fun a ha => by have := k1 a ha; rw [sizeLine_eq]; omega) (by omega)
    rw [List.map_cons]
    unfold enumD forL readR
    cases hq : toEd 13 (Txt.split w ⟨#[32]⟩) with
    | none =>
      rw [hq] at e1
      have e2 := is_edit_no .non h "NoneType" (fun _ => rfl) rfl (by decide)
      refine ⟨acc, .fz (.int (n : Int)), .fz (.str w), .fz .non, ?_⟩
      simp [A_read_edits_1, ha, hb, hc, es, e1, edD] at e2 ⊢
      simp [e2]
    | some e =>
      rw [hq] at e1
      have e2 := is_edit_ev e h (toEd_sz hq)
      cases ho : e.okB with
      | false =>
        rw [ho] at e2
        refine ⟨acc, .fz (.int (n : Int)), .fz (.str w), .fz e.d, ?_⟩
        simp [A_read_edits_1, ha, hb, hc, es, e1, edD, ho] at e2 ⊢
        simp [e2]
      | true =>
        rw [ho] at e2
        obtain ⟨acc', a', b', c', ih⟩ := read_loop x0 x1 x2 h rows (n + 1) (acc ++ [e.d]) (.fz (.int (n : Int))) (.fz (.str w)) (.fz e.d) rfl rfl rfl (fun w' hw' => hw w' (List.mem_cons_of_mem _ hw')) (by rw [List.length_append, List.length_singleton]; omega)
        refine ⟨acc', a', b', c', ?_⟩
        have hs : acc.length < sizeLine := by rw [sizeLine_eq]; omega
        simp [A_read_edits_1, ha, hb, hc, es, e1, edD, ho] at e2 ⊢
        simp [e2, hs]
        rw [ih]
        cases readR 13 (n + 1) rows <;> simp
theorem read_edits_ev (t : Str) (ps : List Str) (q : Str) (h : List D) (ht : t.length ≤ 10000000) (e : Txt.split t ⟨#[10]⟩ = ps ++ [q]) : F_read_edits [.str t] h = (match readR 13 0 ps with
    | .inl k => .ex ⟨"NoText", ["row"], [.int (k : Int)]⟩ h
    | .inr es => if q = Str.empty then .ok (.nd .lst (es.map Ed.d)) true h else .ex ⟨"NoText", ["row"], [.int (ps.length : Int)]⟩ h) := by
  have e0 := rows_of_ev t ps q h (by rw [sizeLine_eq]; omega) e
  obtain ⟨k1, k2⟩ := split_words (w := t) (c := 10)
  rw [e] at k1 k2
  rw [List.length_append, List.length_singleton] at k2
  obtain ⟨acc', a', b', c', el⟩ := read_loop (.str t) (.nd .lst (ps.map .str)) (.str q) h ps 0 [] .un .un .un rfl rfl rfl (fun w hw => Nat.le_trans (k1 w (List.mem_append_left _ hw)) ht) (by simp; omega)
  rw [E_read_edits]
  cases hr : readR 13 0 ps with
  | inl k =>
    rw [hr] at el
    simp [B_read_edits, List.replicate, e0, el]
  | inr es =>
    rw [hr] at el
    dsimp only at el
    rw [List.nil_append] at el
    have hz : ps.length ≤ sizeLine := by rw [sizeLine_eq]; omega
    by_cases hq : q = Str.empty
    · subst hq
      simp [B_read_edits, List.replicate, e0, el, lit_e]
    · simp [B_read_edits, List.replicate, e0, el, hq, lit_e]
theorem read_edits_no (x : D) (h : List D) (T : String) (hx : ∀ r, S.look ⟨r, h⟩ (.v x) = some x) (ht : tyName x = some T) (h1 : isiB T "str" = false) : F_read_edits [x] h = .ex ⟨"NoText", ["row"], [.int 0]⟩ h := by
  have e0 := rows_of_no x h T hx ht h1
  rw [E_read_edits]
  simp [B_read_edits, List.replicate, e0]
end TD.K75

end
section
set_option maxRecDepth 100000
set_option maxHeartbeats 4000000
/-! TxC: plain data: == and repr of trees. -/
namespace TD
open PySem PySem.NumText PyProof.Rows
/-- plain data, at most k deep -/
def Dt (k : Nat) (d : D) : Prop := ∃ p, toPy d = some p ∧ p.canLay0 = true ∧ p.depth ≤ k
theorem Dt.mono {k m : Nat} {d : D} (h : Dt k d) (l : k ≤ m) : Dt m d := let ⟨p, a, b, c⟩ := h; ⟨p, a, b, Nat.le_trans c l⟩
theorem Dt.non {k : Nat} : Dt k .non := ⟨.none, rfl, by simp [PyData.canLay0], by simp [PyData.depth]⟩
theorem Dt.bl {k : Nat} (b : Bool) : Dt k (.bl b) := ⟨.bool b, rfl, by simp [PyData.canLay0], by simp [PyData.depth]⟩
theorem Dt.int {k : Nat} (i : Int) : Dt k (.int i) := ⟨.int i, rfl, by simp [PyData.canLay0], by simp [PyData.depth]⟩
theorem Dt.str {k : Nat} {x : Str} (h : PyData.strOk x = true) : Dt k (.str x) := ⟨.str x, rfl, by simp [PyData.canLay0, h], by simp [PyData.depth]⟩
theorem Dt.all {k : Nat} : ∀ {ds : List D}, (∀ d ∈ ds, Dt k d) → ∃ ps, toPys ds = some ps ∧ PyData.canLayAll0 ps = true ∧ PyData.depthAll ps ≤ k
  | [], _ => ⟨[], rfl, by simp [PyData.canLayAll0], by simp [PyData.depthAll]⟩
  | d :: ds, h => by
    obtain ⟨p, a, b, c⟩ := h d (List.mem_cons_self ..)
    obtain ⟨ps, a2, b2, c2⟩ := Dt.all fun e he => h e (List.mem_cons_of_mem d he)
    refine ⟨p :: ps, ?_, ?_, ?_⟩
    · unfold toPys; rw [a, a2]
    · simp [PyData.canLayAll0, b, b2]
    · simp only [PyData.depthAll]; omega
theorem Dt.lst {k : Nat} {ds : List D} (h : ∀ d ∈ ds, Dt k d) : Dt (k + 1) (.nd .lst ds) := by
  obtain ⟨ps, a, b, c⟩ := Dt.all h
  refine ⟨.list ps, ?_, ?_, ?_⟩
  · unfold toPy; rw [a]
  · simp [PyData.canLay0, b]
  · simp only [PyData.depth]; omega
theorem Dt.tup {k : Nat} {ds : List D} (h : ∀ d ∈ ds, Dt k d) : Dt (k + 1) (.nd .tup ds) := by
  obtain ⟨ps, a, b, c⟩ := Dt.all h
  refine ⟨.tuple ps, ?_, ?_, ?_⟩
  · unfold toPy; rw [a]
  · simp [PyData.canLay0, b]
  · simp only [PyData.depth]; omega
theorem Dt.shaped {k : Nat} {d : D} (h : Dt k d) (hk : k ≤ 64) : ∃ p, toPy d = some p ∧ SeqAt.shaped p = true ∧ p.canLay0 = true := by
  obtain ⟨p, a, b, c⟩ := h
  exact ⟨p, a, by unfold SeqAt.shaped; rw [b, decide_eq_true (Nat.le_trans c hk)]; rfl, b⟩
theorem flat_nd (k : Kd) (ds : List D) : flatD (.nd k ds) = none := rfl
theorem neG_self {k : Nat} {q : Kd} {ds : List D} (h : Dt k (.nd q ds)) (hk : k ≤ 64) : neG (.nd q ds) (.nd q ds) = some (.bl false, false) := by
  obtain ⟨p, a, b, c⟩ := h.shaped hk
  unfold neG
  simp only [flat_nd, a]
  rw [if_pos ⟨b, b⟩, SeqAt.eqv_refl _ c]
  rfl
theorem eqG_self {k : Nat} {q : Kd} {ds : List D} (h : Dt k (.nd q ds)) (hk : k ≤ 64) : eqG (.nd q ds) (.nd q ds) = some (.bl true, false) := by
  obtain ⟨p, a, b, c⟩ := h.shaped hk
  unfold eqG
  simp only [flat_nd, a]
  rw [if_pos ⟨b, b⟩, SeqAt.eqv_refl _ c]
theorem neG_nil {k : Nat} {ds : List D} (h : Dt k (.nd .lst ds)) (hk : k ≤ 64) : neG (.nd .lst ds) (.nd .lst []) = some (.bl (decide (ds ≠ [])), false) := by
  obtain ⟨p, a, b, c⟩ := h.shaped hk
  obtain ⟨q, a2, b2, c2⟩ := (Dt.lst (k := 0) (ds := []) (by simp)).shaped (by decide)
  unfold neG
  simp only [flat_nd, a, a2]
  rw [if_pos ⟨b, b2⟩]
  unfold toPy toPys at a2
  cases a2
  cases ds with
  | nil =>
    unfold toPy toPys at a
    cases a
    rfl
  | cons d ds =>
    unfold toPy toPys at a
    revert a
    cases toPy d <;> cases toPys ds <;> intro a <;> cases a
    rfl
theorem eqG_nil {k : Nat} {ds : List D} (h : Dt k (.nd .lst ds)) (hk : k ≤ 64) : eqG (.nd .lst ds) (.nd .lst []) = some (.bl (decide (ds = [])), false) := by
  obtain ⟨p, a, b, c⟩ := h.shaped hk
  obtain ⟨q, a2, b2, c2⟩ := (Dt.lst (k := 0) (ds := []) (by simp)).shaped (by decide)
  unfold eqG
  simp only [flat_nd, a, a2]
  rw [if_pos ⟨b, b2⟩]
  unfold toPy toPys at a2
  cases a2
  cases ds with
  | nil =>
    unfold toPy toPys at a
    cases a
    rfl
  | cons d ds =>
    unfold toPy toPys at a
    revert a
    cases toPy d <;> cases toPys ds <;> intro a <;> cases a
    rfl
/-! repr -/
def Rz (k b : Nat) (d : D) : Prop := ∃ p, dataD d = some p ∧ p.showable = true ∧ p.hasDict = false ∧ p.depth ≤ k ∧ p.shown.length ≤ b
theorem Rz.mono {k m b c : Nat} {d : D} (h : Rz k b d) (l : k ≤ m) (l2 : b ≤ c) : Rz m c d := let ⟨p, a, e, f, g, i⟩ := h; ⟨p, a, e, f, Nat.le_trans g l, Nat.le_trans i l2⟩
theorem Rz.int {k : Nat} {i : Int} (h0 : 0 ≤ i) (h1 : i < 10 ^ 10) : Rz k 10 (.int i) := by
  refine ⟨.int i, rfl, ?_, by simp [PyData.hasDict], by simp [PyData.depth], ?_⟩
  · simp only [PyData.showable, decide_eq_true_eq]
    have : i.natAbs < 2 ^ 1920 := Nat.lt_of_lt_of_le (show i.natAbs < 10 ^ 10 by omega) (by decide +kernel)
    by_cases hz : i.natAbs = 0
    · rw [hz]; decide
    · exact (Nat.log2_lt hz).mpr this
  · simp only [PyData.shown]
    exact numS_len h0 h1
theorem Rz.str {k : Nat} {x : Str} (h : ∀ c ∈ sg x, c < 16 ^ 8) : Rz k (10 * x.length + 2) (.str x) :=
  ⟨.str x, rfl, by simp [PyData.showable], by simp [PyData.hasDict], by simp [PyData.depth], by simp only [PyData.shown]; exact StrLaws.reprText_len x h⟩
theorem Rz.all {k b : Nat} : ∀ {ds : List D}, (∀ d ∈ ds, Rz k b d) → ∃ ps, datasD ds = some ps ∧ PyData.showableAll ps = true ∧ PyData.hasDictAll ps = false ∧ PyData.depthAll ps ≤ k ∧ (∀ t ∈ PyData.shownAll ps, t.length ≤ b) ∧ (PyData.shownAll ps).length = ds.length
  | [], _ => ⟨[], rfl, by simp [PyData.showableAll], by simp [PyData.hasDictAll], by simp [PyData.depthAll], by simp [PyData.shownAll], by simp [PyData.shownAll]⟩
  | d :: ds, h => by
    obtain ⟨p, a, e, f, g, i⟩ := h d (List.mem_cons_self ..)
    obtain ⟨ps, a2, e2, f2, g2, i2, l2⟩ := Rz.all fun e he => h e (List.mem_cons_of_mem d he)
    refine ⟨p :: ps, ?_, ?_, ?_, ?_, ?_, ?_⟩
    · unfold datasD; rw [a, a2]
    · simp [PyData.showableAll, e, e2]
    · simp [PyData.hasDictAll, f, f2]
    · simp only [PyData.depthAll]; omega
    · intro t ht
      simp only [PyData.shownAll, List.mem_cons] at ht
      rcases ht with rfl | ht
      · exact i
      · exact i2 t ht
    · simp only [PyData.shownAll, List.length_cons, l2]
theorem piled_le {b : Nat} : ∀ {ts : List Str}, (∀ t ∈ ts, t.length ≤ b) → piled ts ≤ ts.length * (b + 2)
  | [], _ => by simp [piled]
  | t :: ts, h => by
    have := piled_le (ts := ts) fun u hu => h u (List.mem_cons_of_mem _ hu)
    have h1 := h t (List.mem_cons_self ..)
    unfold piled at this ⊢
    simp only [List.map_cons, List.sum_cons, List.length_cons, Nat.succ_mul]
    omega
theorem textFrom_up : ∀ (ts : List Str) (k : Nat) (acc : Str), (textFrom k acc ts).length ≤ acc.length + piled ts
  | [], k, acc => by simp [textFrom, piled]
  | t :: ts, k, acc => by
    have := textFrom_up ts (k + 1) (acc ++ (if k > 0 then ", " else "" : String) ++ t)
    have e : (acc ++ Str.ofString (if k > 0 then ", " else "" : String) ++ t).length ≤ acc.length + 2 + t.length := by
      rw [Str.length_append, Str.length_append]
      split
      · have : (Str.ofString ", ").length = 2 := by decide +kernel
        omega
      · have : (Str.ofString "").length = 0 := by decide +kernel
        omega
    unfold textFrom
    unfold piled at this ⊢
    simp only [List.map_cons, List.sum_cons]
    omega
theorem Rz.lst {k b : Nat} {ds : List D} (h : ∀ d ∈ ds, Rz k b d) : Rz (k + 1) (ds.length * (b + 2) + 3) (.nd .lst ds) := by
  obtain ⟨ps, a, e, f, g, i, l⟩ := Rz.all h
  refine ⟨.list ps, ?_, ?_, ?_, ?_, ?_⟩
  · unfold dataD; rw [a]
  · simp [PyData.showable, e]
  · simp [PyData.hasDict, f]
  · simp only [PyData.depth]; omega
  · simp only [PyData.shown]
    unfold listText
    rw [Str.length_append]
    have h1 := textFrom_up (PyData.shownAll ps) 0 "["
    have h2 := piled_le i
    rw [l] at h2
    have e1 : (Str.ofString "[").length = 1 := by decide +kernel
    have e2 : (Str.ofString "]").length = 1 := by decide +kernel
    omega
theorem Rz.tup {k b : Nat} {ds : List D} (h : ∀ d ∈ ds, Rz k b d) : Rz (k + 1) (ds.length * (b + 2) + 3) (.nd .tup ds) := by
  obtain ⟨ps, a, e, f, g, i, l⟩ := Rz.all h
  refine ⟨.tuple ps, ?_, ?_, ?_, ?_, ?_⟩
  · unfold dataD; rw [a]
  · simp [PyData.showable, e]
  · simp [PyData.hasDict, f]
  · simp only [PyData.depth]; omega
  · simp only [PyData.shown]
    unfold tupleText
    rw [Str.length_append, Str.length_append]
    have h1 : (Str.join (Str.ofString ", ") (PyData.shownAll ps)).length ≤ piled (PyData.shownAll ps) := by
      by_cases hn : PyData.shownAll ps = []
      · rw [hn]
        exact Nat.zero_le _
      · have := join_length_add _ hn
        omega
    have h2 := piled_le i
    rw [l] at h2
    have e1 : (Str.ofString "(").length = 1 := by decide +kernel
    have e2 : (Str.ofString (if (PyData.shownAll ps).length == 1 then ",)" else ")")).length ≤ 2 := by
      split <;> decide +kernel
    omega
theorem Rz.repr {k b : Nat} {d : D} (h : Rz k b d) (hk : k ≤ 60) (hb : b ≤ 16777216) : ∃ t, reprG [d] = some (.str t, false) := by
  obtain ⟨p, a, e, f, g, i⟩ := h
  refine ⟨p.shown, ?_⟩
  unfold reprG
  simp only [a]
  rw [if_pos]
  unfold showOk
  simp only [e, f, Bool.not_false, Bool.and_true, Bool.true_and, Bool.and_eq_true, decide_eq_true_eq]
  exact ⟨Nat.le_trans g hk, by rw [sizeLine_eq]; omega⟩
end TD

end
section
set_option maxRecDepth 100000
set_option maxHeartbeats 4000000
/-! TxD: draws, said plainly. -/
namespace TD
open PySem PySem.NumText PyProof.Rows
def mixV (cell turn : Int) : Int :=
  if cell < 10 ^ 18 then ((cell % 2147483399 + 104729 * turn + 11) * 48271 % 2147483399) ^ 5 % 2147483399
  else (((cell % 2147483399 + 104729 * turn + 11) * 48271 % 2147483399) ^ 5 % 2147483399 + cell / 10 ^ 18 % (1 + (turn + 1) * 4014476939333036189094441199026045136645885247730)) % 2147483399
/-- the draw: the script's cells, how many were made -/
def drawD (c : List Int) (n : Nat) : D := .nd .lst [.nd .lst (c.map .int), .int (n : Int)]
def cellOf (c : List Int) (n : Nat) : Int := c.getD (n % max 1 c.length) 0
/-- the n-th draw of k -/
def nx (c : List Int) (n : Nat) (k : Int) : Int := mixV (cellOf c n) (((n / max 1 c.length % 127 : Nat) : Int)) / 7 % k
theorem nx_ge {c : List Int} {n : Nat} {k : Int} (h : 0 < k) : 0 ≤ nx c n k := Int.emod_nonneg _ (by omega)
theorem nx_lt {c : List Int} {n : Nat} {k : Int} (h : 0 < k) : nx c n k < k := Int.emod_lt_of_pos _ h
/-- what is picked of some -/
def pk {α : Type} (c : List Int) (n : Nat) (a : α) (l : List α) : α := l.getD (nx c n (l.length : Int)).toNat a
theorem pk_mem {α : Type} {c : List Int} {n : Nat} {a : α} {l : List α} (h : l ≠ []) : pk c n a l ∈ l := by
  have hp : 0 < (l.length : Int) := by
    have : l.length ≠ 0 := fun z => h (List.length_eq_zero_iff.mp z)
    omega
  have h1 := nx_ge (c := c) (n := n) hp
  have h2 := nx_lt (c := c) (n := n) hp
  unfold pk
  rw [List.getD_eq_getElem?_getD, List.getElem?_eq_getElem (by omega)]
  exact List.getElem_mem _
theorem pk_at {α : Type} {c : List Int} {n : Nat} {a : α} {l : List α} (h : l ≠ []) : L2.atI l (nx c n (l.length : Int)) = some (pk c n a l) := by
  have hp : 0 < (l.length : Int) := by
    have : l.length ≠ 0 := fun z => h (List.length_eq_zero_iff.mp z)
    omega
  have h1 := nx_ge (c := c) (n := n) hp
  have h2 := nx_lt (c := c) (n := n) hp
  unfold pk
  generalize nx c n (l.length : Int) = i at *
  obtain ⟨m, rfl⟩ := Int.eq_ofNat_of_zero_le h1
  have hm : m < l.length := by omega
  have e : l[m]? = some (l.getD m a) := by rw [List.getD_eq_getElem?_getD, List.getElem?_eq_getElem hm]; rfl
  exact atI_nat l m _ e
theorem pk_map {α β : Type} (f : α → β) {c : List Int} {n : Nat} {a : α} {l : List α} : pk c n (f a) (l.map f) = f (pk c n a l) := by
  unfold pk
  simp [List.getD_eq_getElem?_getD]
/-- a slot with a value -/
def Sl.val : Sl → Option D
  | .fz d => some d
  | .own false d => some d
  | _ => none
@[simp] theorem val_fz (d : D) : (Sl.fz d).val = some d := rfl
@[simp] theorem val_own (d : D) : (Sl.own false d).val = some d := rfl
theorem set_self {α : Type} : ∀ {l : List α} {i : Nat} {a : α}, l[i]? = some a → l.set i a = l
  | [], _, _, h => by simp at h
  | _ :: _, 0, _, h => by simp at h; rw [h]; rfl
  | _ :: _, i + 1, _, h => by simp at h; rw [List.set_cons_succ, set_self h]
@[simp] theorem rdE_val {i : Nat} {r : List Sl} {h : List D} {a : Sl} {d : D} (ha : a.val = some d) (hr : r[i]? = some a) : rdE i r h (some a) = .ok d ⟨r.set i (.fz d), h⟩ := by
  cases a with
  | un => cases ha
  | fz e =>
    cases ha
    rw [rdE_fz, set_self hr]
  | own lk e =>
    cases lk with
    | true => cases ha
    | false =>
      cases ha
      rfl
theorem nl_val {a : Sl} {d : D} (ha : a.val = some d) : a.nl = true := by
  cases a with
  | un => rfl
  | fz e => rfl
  | own lk e => cases lk <;> first | rfl | cases ha
@[simp] theorem hp_last {r : List D} {x : D} : (r ++ [x])[r.length]? = some x := List.getElem?_concat_length
@[simp] theorem hp_set {r : List D} {x y : D} : (r ++ [x]).set r.length y = r ++ [y] := by
  rw [List.set_append_right _ _ (Nat.le_refl _), Nat.sub_self]
  rfl
/-! lists of texts -/
theorem flats_str : ∀ xs : List Str, flats (xs.map .str) = some (xs.map .str)
  | [] => rfl
  | x :: xs => by
    rw [List.map_cons]
    unfold flats
    rw [flats_str xs]
    rfl
theorem inV_str (x : Str) : ∀ xs : List Str, L2.inV (.str x) (xs.map .str) = decide (x ∈ xs)
  | [] => rfl
  | y :: xs => by
    rw [List.map_cons]
    unfold L2.inV
    rw [List.any_cons]
    have := inV_str x xs
    unfold L2.inV at this
    rw [this]
    have e : L2.eqV (.str y) (.str x) = decide (x = y) := by
      unfold L2.eqV
      by_cases h : x = y
      · simp [h]
      · rw [decide_eq_false h]
        exact beq_eq_false_iff_ne.mpr fun z => h z.symm
    rw [e]
    simp [Bool.decide_or]
theorem inG_strs (neg : Bool) (x : Str) (xs : List Str) (k : Kd) (hk : k = .lst ∨ k = .tup) : inG neg (.str x) (.nd k (xs.map .str)) = some (.bl (neg ^^ decide (x ∈ xs)), false) := by
  unfold inG
  dsimp only
  rw [if_pos hk, flats_str]
  simp only [flatD]
  rw [if_pos ⟨rfl, by simp [L2.flatV]⟩, inV_str]
theorem fresh_ex {α : Type} [DecidableEq α] : ∀ (found l : List α), l.Nodup → found.length < l.length → ∃ x, x ∈ l ∧ x ∉ found
  | [], [], _, h => by simp at h
  | [], x :: l, _, _ => ⟨x, List.mem_cons_self .., by simp⟩
  | f :: fs, l, nd, h => by
    have h1 : l.length - 1 ≤ (l.erase f).length := by
      rw [List.length_erase]
      split <;> omega
    obtain ⟨x, a, b⟩ := fresh_ex fs (l.erase f) (nd.erase f) (by simp at h; omega)
    obtain ⟨c, d⟩ := (nd.mem_erase_iff).mp a
    exact ⟨x, d, by simp [c, b]⟩
def qs : List Str := (List.range 99).map fun i : Nat => Str.ofString "q" ++ numS (i : Int)
theorem qs_nodup : qs.Nodup := by decide +kernel
theorem qs_nm : ∀ x ∈ qs, nmB x = true := by decide +kernel
def ownN : List Str := ["road", "ban", "tile", "way", "none", "lacks", "undo", "drop", "free", "closed", "0", "a", "aa", "a0", "z"]
theorem own_nm : ∀ x ∈ ownN, nmB x = true := by decide +kernel
theorem r_nm : ∀ k : Nat, k < 1000 → nmB (Str.ofString "r" ++ numS (k : Int)) = true := by
  intro k hk
  have h1 := figs_all k
  have h2 := figs_len (m := k) (k := 3) (by omega) (by decide)
  have h3 := sg_len (numS (k : Int))
  have er : sg (Str.ofString "r") = [114] := by decide +kernel
  have el : (Str.ofString "r" ++ numS (k : Int)).length = 1 + (numS (k : Int)).length := by
    rw [Str.length_append]
    have : (Str.ofString "r").length = 1 := by decide +kernel
    omega
  unfold nmB
  rw [el, sg_app, er]
  have eS : SG = [97, 98, 99, 100, 101, 102, 103, 104, 105, 106, 107, 108, 109, 110, 111, 112, 113, 114, 115, 116, 117, 118, 119, 120, 121, 122, 48, 49, 50, 51, 52, 53, 54, 55, 56, 57] := by decide +kernel
  simp only [Bool.and_eq_true, decide_eq_true_eq, List.all_eq_true]
  refine ⟨⟨by omega, by omega⟩, fun c hc => ?_⟩
  rcases List.mem_append.mp hc with hc | hc
  · rw [List.mem_singleton.mp hc, eS]
    simp
  · have := h1 c hc
    rw [eS]
    simp
    omega
theorem join_ones_sg : ∀ cs : List Nat, sg (Str.join Str.empty (cs.map fun k => (⟨#[k]⟩ : Str))) = cs
  | [] => rfl
  | [k] => rfl
  | k :: k' :: cs => by
    show sg ((⟨#[k]⟩ : Str) ++ Str.empty ++ Str.join Str.empty ((k' :: cs).map fun k => (⟨#[k]⟩ : Str))) = _
    rw [sg_app, sg_app, join_ones_sg (k' :: cs)]
    rfl
theorem ones_nm {cs : List Nat} (h1 : 1 ≤ cs.length) (h2 : cs.length ≤ 8) (h : ∀ k ∈ cs, k ∈ SG) : nmB (Str.join Str.empty (cs.map fun k => (⟨#[k]⟩ : Str))) = true := by
  unfold nmB
  rw [← sg_len, join_ones_sg]
  simp only [Bool.and_eq_true, decide_eq_true_eq, List.all_eq_true]
  exact ⟨⟨by omega, by omega⟩, h⟩
end TD

end
section
set_option maxRecDepth 100000
set_option maxHeartbeats 4000000
/-! TxE: valid edits as data; their texts read back. -/
namespace TD
open PySem PySem.NumText PyProof.Rows
theorem SG_iff {c : Nat} : c ∈ SG ↔ (97 ≤ c ∧ c ≤ 122) ∨ (48 ≤ c ∧ c ≤ 57) := by
  have eS : SG = [97, 98, 99, 100, 101, 102, 103, 104, 105, 106, 107, 108, 109, 110, 111, 112, 113, 114, 115, 116, 117, 118, 119, 120, 121, 122, 48, 49, 50, 51, 52, 53, 54, 55, 56, 57] := by decide +kernel
  rw [eS]
  simp
  omega
theorem nmB_SG {x : Str} (h : nmB x = true) : ∀ c ∈ sg x, c ∈ SG := by
  unfold nmB at h
  simp only [Bool.and_eq_true, decide_eq_true_eq, List.all_eq_true] at h
  exact h.2
theorem strOk_of {x : Str} (h : ∀ c ∈ sg x, c < 1000) : PyData.strOk x = true := by
  unfold PyData.strOk
  rw [← Array.all_toList, List.all_eq_true]
  intro c hc
  have := h c hc
  exact decide_eq_true (by omega)
theorem nmB_small {x : Str} (h : nmB x = true) : ∀ c ∈ sg x, c < 1000 := fun c hc => by
  have := SG_iff.mp (nmB_SG h c hc)
  omega
theorem Dt.nm {k : Nat} {x : Str} (h : nmB x = true) : Dt k (.str x) := .str (strOk_of (nmB_small h))
theorem Wt.dt {w : Wt} (h : w.okB = true) : Dt 1 (.nd .tup w.ds) := by
  refine Dt.tup fun d hd => ?_
  cases w <;> simp only [Wt.okB, Bool.and_eq_true] at h <;> simp only [Wt.ds, List.mem_cons, List.not_mem_nil, or_false] at hd
  · rcases hd with rfl | rfl | rfl | rfl | rfl
    · exact .str (by decide +kernel)
    · exact .nm h.1
    · exact .int _
    · exact .int _
    · exact .int _
  · rcases hd with rfl | rfl
    · exact .str (by decide +kernel)
    · exact .nm h
  · rcases hd with rfl | rfl | rfl
    · exact .str (by decide +kernel)
    · exact .nm h.1
    · exact .nm h.2
  · rcases hd with rfl | rfl | rfl
    · exact .str (by decide +kernel)
    · exact .nm h.1
    · exact .nm h.2
  · rcases hd with rfl | rfl | rfl
    · exact .str (by decide +kernel)
    · exact .int _
    · exact .nm h.2
theorem Ed.dt {e : Ed} (h : e.okB = true) : Dt 2 e.d := by
  simp only [Ed.okB, Bool.and_eq_true] at h
  refine Dt.tup fun d hd => ?_
  simp only [List.mem_cons, List.not_mem_nil, or_false] at hd
  rcases hd with rfl | rfl | rfl
  · exact .int _
  · exact .nm h.2.1
  · exact Wt.dt h.2.2
theorem eds_dt {es : List Ed} (h : ∀ e ∈ es, e.okB = true) : Dt 3 (.nd .lst (es.map Ed.d)) := Dt.lst fun d hd => by
  obtain ⟨e, he, rfl⟩ := List.mem_map.mp hd
  exact Ed.dt (h e he)
theorem Rz.nm {k : Nat} {x : Str} (h : nmB x = true) : Rz k 82 (.str x) := by
  refine (Rz.str (k := k) fun c hc => ?_).mono (Nat.le_refl _) (by have := nmB_len h; omega)
  have := nmB_small h c hc
  have : (1000 : Nat) ≤ 16 ^ 8 := by decide
  omega
theorem Rz.lit {k : Nat} {x : Str} (h : x.length ≤ 8) (h2 : ∀ c ∈ sg x, c < 1000) : Rz k 82 (.str x) := by
  refine (Rz.str (k := k) fun c hc => ?_).mono (Nat.le_refl _) (by omega)
  have := h2 c hc
  have : (1000 : Nat) ≤ 16 ^ 8 := by decide
  omega
theorem Rz.num {k : Nat} {i : Int} (h : 0 ≤ i ∧ i ≤ 1000000) : Rz k 82 (.int i) := (Rz.int (k := k) h.1 (by omega)).mono (Nat.le_refl _) (by decide)
theorem Wt.rz {w : Wt} (h : w.okB = true) : Rz 1 423 (.nd .tup w.ds) := by
  have l := Wt.ds_len w
  refine (Rz.tup (k := 0) (b := 82) fun d hd => ?_).mono (Nat.le_refl _) (by omega)
  cases w <;> simp only [Wt.okB, Bool.and_eq_true, rdB, plB, stB, wiB_iff, decide_eq_true_eq] at h <;> simp only [Wt.ds, List.mem_cons, List.not_mem_nil, or_false] at hd
  · rcases hd with rfl | rfl | rfl | rfl | rfl
    · exact .lit (by decide +kernel) (by decide +kernel)
    · exact .nm h.1
    · exact .num (by omega)
    · exact .num (by omega)
    · exact .num (by omega)
  · rcases hd with rfl | rfl
    · exact .lit (by decide +kernel) (by decide +kernel)
    · exact .nm h
  · rcases hd with rfl | rfl | rfl
    · exact .lit (by decide +kernel) (by decide +kernel)
    · exact .nm h.1
    · exact .nm h.2
  · rcases hd with rfl | rfl | rfl
    · exact .lit (by decide +kernel) (by decide +kernel)
    · exact .nm h.1
    · exact .nm h.2
  · rcases hd with rfl | rfl | rfl
    · exact .lit (by decide +kernel) (by decide +kernel)
    · exact .num (by omega)
    · exact .nm h.2
theorem Ed.rz {e : Ed} (h : e.okB = true) : Rz 2 1278 e.d := by
  simp only [Ed.okB, Bool.and_eq_true, stB, wiB_iff] at h
  refine Rz.tup (k := 1) (b := 423) fun d hd => ?_
  simp only [List.mem_cons, List.not_mem_nil, or_false] at hd
  rcases hd with rfl | rfl | rfl
  · exact (Rz.num h.1).mono (Nat.le_refl _) (by decide)
  · exact (Rz.nm h.2.1).mono (Nat.le_refl _) (by decide)
  · exact Wt.rz h.2.2
theorem eds_rz {es : List Ed} (h : ∀ e ∈ es, e.okB = true) (hl : es.length ≤ 1000) : ∃ t, reprG [.nd .lst (es.map Ed.d)] = some (.str t, false) := by
  have := Rz.lst (k := 2) (b := 1278) (ds := es.map Ed.d) fun d hd => by
    obtain ⟨e, he, rfl⟩ := List.mem_map.mp hd
    exact Ed.rz (h e he)
  refine this.repr (by decide) ?_
  rw [List.length_map]
  omega
/-! texts read back -/
theorem fig_num {i : Int} (h0 : 0 ≤ i) (h1 : i < 10 ^ 10) : figB 13 (numS i) = true ∧ valW (numS i) = i := by
  obtain ⟨m, rfl⟩ := Int.eq_ofNat_of_zero_le h0
  have hd := figs_all m
  have hl := figs_len (m := m) (k := 10) (by omega) (by decide)
  have hp := figs_pos m
  have hs := sg_len (numS (m : Int))
  constructor
  · unfold figB
    simp only [Bool.and_eq_true, decide_eq_true_eq, List.all_eq_true, Bool.or_eq_true, Bool.not_eq_true', decide_eq_false_iff_not]
    refine ⟨⟨⟨by omega, by omega⟩, fun c hc => fg_iff.mpr (hd c hc)⟩, ?_⟩
    by_cases hm : m = 0
    · left
      rw [hm]
      decide +kernel
    · right
      obtain ⟨c, r, e, hc⟩ := figs_head (m := m) (by omega)
      rw [e]
      simpa using hc
  · have e1 := numS_reads (m := m) (by omega)
    have e2 := intText_digits hd (fun z => by rw [show sg (numS (m : Int)) = [] from z] at hp; simp at hp) (by omega)
    rw [e1] at e2
    exact (Option.some.inj e2).symm
theorem toEd_ws {e : Ed} (h : e.okB = true) : toEd 13 (e.ws.map wS) = some e := by
  obtain ⟨st, hand, w⟩ := e
  simp only [Ed.okB, Bool.and_eq_true, stB, wiB_iff] at h
  obtain ⟨h1, h2, h3⟩ := h
  obtain ⟨f1, f2⟩ := fig_num (i := st) h1.1 (by omega)
  have d1 : ¬ Str.ofString "drop" = Str.ofString "road" := by decide +kernel
  have d2 : ¬ Str.ofString "ban" = Str.ofString "road" := by decide +kernel
  have d3 : ¬ Str.ofString "ban" = Str.ofString "drop" := by decide +kernel
  have d4 : ¬ Str.ofString "free" = Str.ofString "road" := by decide +kernel
  have d5 : ¬ Str.ofString "free" = Str.ofString "drop" := by decide +kernel
  have d6 : ¬ Str.ofString "free" = Str.ofString "ban" := by decide +kernel
  have d7 : ¬ Str.ofString "undo" = Str.ofString "road" := by decide +kernel
  have d8 : ¬ Str.ofString "undo" = Str.ofString "drop" := by decide +kernel
  have d9 : ¬ Str.ofString "undo" = Str.ofString "ban" := by decide +kernel
  have d10 : ¬ Str.ofString "undo" = Str.ofString "free" := by decide +kernel
  cases w <;> simp only [Wt.okB, Bool.and_eq_true, rdB, plB, stB, wiB_iff, decide_eq_true_eq, Bool.not_eq_true', decide_eq_false_iff_not] at h3
  · rename_i n a b c
    obtain ⟨g1, g2⟩ := fig_num (i := a) h3.2.1.1.1 (by omega)
    obtain ⟨g3, g4⟩ := fig_num (i := b) h3.2.1.2.1.1 (by omega)
    obtain ⟨g5, g6⟩ := fig_num (i := c) (by omega) (by omega)
    simp [toEd, Ed.ws, Wt.ws, wS, f1, f2, h2, h3.1, g1, g2, g3, g4, g5, g6]
  · simp [toEd, Ed.ws, Wt.ws, wS, f1, f2, h2, h3, d1]
  · simp [toEd, Ed.ws, Wt.ws, wS, f1, f2, h2, h3.1, h3.2, d2, d3]
  · simp [toEd, Ed.ws, Wt.ws, wS, f1, f2, h2, h3.1, h3.2, d4, d5, d6]
  · rename_i i n
    obtain ⟨g1, g2⟩ := fig_num (i := i) h3.1.1 (by omega)
    simp [toEd, Ed.ws, Wt.ws, wS, f1, f2, h2, h3.2, g1, g2, d7, d8, d9, d10]
/-- words without blanks and line feeds -/
def cleanW (x : Str) : Prop := ∀ c ∈ sg x, c ≠ 32 ∧ c ≠ 10
theorem okW_clean {e : Ed} (h : e.okB = true) : ∀ x ∈ e.ws, cleanW (wS x) := by
  have k1 : ∀ {n : Str}, nmB n = true → cleanW n := fun h c hc => by have := SG_iff.mp (nmB_SG h c hc); omega
  have k2 : ∀ {i : Int}, 0 ≤ i → cleanW (numS i) := fun {i} h c hc => by
    obtain ⟨m, rfl⟩ := Int.eq_ofNat_of_zero_le h
    have := figs_all m c hc
    omega
  have k3 : ∀ s ∈ ["road", "drop", "ban", "free", "undo"], cleanW (Str.ofString s) := by unfold cleanW; decide +kernel
  obtain ⟨st, hand, w⟩ := e
  simp only [Ed.okB, Bool.and_eq_true, stB, wiB_iff] at h
  obtain ⟨h1, h2, h3⟩ := h
  intro x hx
  simp only [Ed.ws, List.mem_cons] at hx
  rcases hx with rfl | rfl | hx
  · exact k2 h1.1
  · exact k1 h2
  cases w <;> simp only [Wt.okB, Bool.and_eq_true, rdB, plB, stB, wiB_iff, decide_eq_true_eq] at h3 <;> simp only [Wt.ws, List.mem_cons, List.not_mem_nil, or_false] at hx
  · rcases hx with rfl | rfl | rfl | rfl | rfl
    · exact k3 _ (by simp)
    · exact k1 h3.1
    · exact k2 (by omega)
    · exact k2 (by omega)
    · exact k2 (by omega)
  · rcases hx with rfl | rfl
    · exact k3 _ (by simp)
    · exact k1 h3
  · rcases hx with rfl | rfl | rfl
    · exact k3 _ (by simp)
    · exact k1 h3.1
    · exact k1 h3.2
  · rcases hx with rfl | rfl | rfl
    · exact k3 _ (by simp)
    · exact k1 h3.1
    · exact k1 h3.2
  · rcases hx with rfl | rfl | rfl
    · exact k3 _ (by simp)
    · exact k2 (by omega)
    · exact k1 h3.2
/-- a row without its end -/
def Ed.line (e : Ed) : Str := Str.join ⟨#[32]⟩ (e.ws.map wS)
theorem Ed.row_line (e : Ed) : e.row = e.line ++ ⟨#[10]⟩ := by
  unfold Ed.row rowS Ed.line
  rw [lit_sp, lit_nl]
theorem line_split {e : Ed} (h : e.okB = true) : Txt.split e.line ⟨#[32]⟩ = e.ws.map wS := by
  refine split_join 32 _ (by simp [Ed.ws]) fun p hp => ?_
  obtain ⟨x, hx, rfl⟩ := List.mem_map.mp hp
  exact fun z => (okW_clean h x hx 32 z).1 rfl
theorem sg_join_mem (k : Nat) : ∀ (ps : List Str) (c : Nat), c ∈ sg (Str.join ⟨#[k]⟩ ps) → c = k ∨ ∃ p ∈ ps, c ∈ sg p
  | [], c, h => by simp [Str.join, sg, Str.empty] at h
  | [p], c, h => .inr ⟨p, by simp, h⟩
  | p :: q :: ps, c, h => by
    rw [sg_join_cons] at h
    rcases List.mem_append.mp h with h | h
    · exact .inr ⟨p, by simp, h⟩
    · rcases List.mem_cons.mp h with h | h
      · exact .inl h
      · rcases sg_join_mem k (q :: ps) c h with h | ⟨r, hr, h⟩
        · exact .inl h
        · exact .inr ⟨r, List.mem_cons_of_mem _ hr, h⟩
theorem line_clean {e : Ed} (h : e.okB = true) : 10 ∉ sg e.line := by
  intro z
  rcases sg_join_mem 32 _ 10 z with h1 | ⟨p, hp, h1⟩
  · cases h1
  · obtain ⟨x, hx, rfl⟩ := List.mem_map.mp hp
    exact (okW_clean h x hx 10 h1).2 rfl
theorem eds_split {es : List Ed} (h : ∀ e ∈ es, e.okB = true) : Txt.split (eds_text es) ⟨#[10]⟩ = es.map Ed.line ++ [Str.empty] := by
  have e1 : eds_text es = Str.join ⟨#[10]⟩ (es.map Ed.line ++ [Str.empty]) := by
    rw [← join_rows 10 (es.map Ed.line)]
    unfold eds_text
    rw [List.map_map]
    rw [show Ed.row = ((fun x => x ++ ⟨#[10]⟩) ∘ Ed.line) from funext Ed.row_line]
  rw [e1]
  refine split_join 10 _ (by simp) fun p hp => ?_
  rcases List.mem_append.mp hp with hp | hp
  · obtain ⟨e, he, rfl⟩ := List.mem_map.mp hp
    exact line_clean (h e he)
  · rw [List.mem_singleton.mp hp]
    exact fun z => by cases z
end TD

end
section
set_option maxRecDepth 100000
set_option maxHeartbeats 4000000
/-! TxF: texts that are changed: lengths, signs; edits read are edits told. -/
namespace TD
open PySem PySem.NumText PyProof.Rows
/-- a text of at most so many signs, all below 1000 -/
def Tx (L : Nat) (x : Str) : Prop := x.length ≤ L ∧ ∀ c ∈ sg x, c < 1000
/-- words of so much weight -/
def wt (ws : List Str) : Nat := (ws.map (·.length)).sum + ws.length
def Wl (L : Nat) (ws : List Str) : Prop := wt ws ≤ L ∧ ∀ w ∈ ws, ∀ c ∈ sg w, c < 1000
theorem Tx.mono {L M : Nat} {x : Str} (h : Tx L x) (l : L ≤ M) : Tx M x := ⟨Nat.le_trans h.1 l, h.2⟩
theorem wt_app (a b : List Str) : wt (a ++ b) = wt a + wt b := by
  unfold wt
  simp
  omega
theorem wt_take (n : Nat) : ∀ ws : List Str, wt (ws.take n) ≤ wt ws := fun ws => by
  have := wt_app (ws.take n) (ws.drop n)
  rw [List.take_append_drop] at this
  omega
theorem wt_drop (n : Nat) : ∀ ws : List Str, wt (ws.drop n) ≤ wt ws := fun ws => by
  have := wt_app (ws.take n) (ws.drop n)
  rw [List.take_append_drop] at this
  omega
theorem Wl.app {L M : Nat} {a b : List Str} (h : Wl L a) (g : Wl M b) : Wl (L + M) (a ++ b) := ⟨by rw [wt_app]; exact Nat.add_le_add h.1 g.1, fun w hw => (List.mem_append.mp hw).elim (h.2 w) (g.2 w)⟩
theorem Wl.take {L n : Nat} {a : List Str} (h : Wl L a) : Wl L (a.take n) := ⟨Nat.le_trans (wt_take n a) h.1, fun w hw => h.2 w (List.mem_of_mem_take hw)⟩
theorem Wl.drop {L n : Nat} {a : List Str} (h : Wl L a) : Wl L (a.drop n) := ⟨Nat.le_trans (wt_drop n a) h.1, fun w hw => h.2 w (List.mem_of_mem_drop hw)⟩
theorem Wl.cut {L : Nat} {a : List Str} {lo hi : Option Int} (h : Wl L a) : Wl L (cutL a lo hi) := by
  unfold cutL
  exact h.drop.take
theorem Wl.rev {L : Nat} {a : List Str} (h : Wl L a) : Wl L a.reverse := by
  refine ⟨?_, fun w hw => h.2 w (List.mem_reverse.mp hw)⟩
  have : wt a.reverse = wt a := by
    unfold wt
    rw [List.map_reverse, List.length_reverse, List.sum_reverse]
  rw [this]
  exact h.1
theorem Wl.one {L : Nat} {x : Str} (h : Tx L x) : Wl (L + 1) [x] := ⟨by unfold wt; simp; exact h.1, fun w hw => by rw [List.mem_singleton.mp hw]; exact h.2⟩
theorem cutL_map {α β : Type} (f : α → β) (xs : List α) (lo hi : Option Int) : cutL (xs.map f) lo hi = (cutL xs lo hi).map f := by
  unfold cutL
  rw [List.length_map, ← List.map_drop, ← List.map_take]
theorem mem_join (k : Nat) : ∀ (ps : List Str) (p : Str) (c : Nat), p ∈ ps → c ∈ sg p → c ∈ sg (Str.join ⟨#[k]⟩ ps)
  | [], _, _, h, _ => by cases h
  | [q], p, c, h, hc => by
    rw [List.mem_singleton.mp h] at hc
    exact hc
  | q :: q' :: ps, p, c, h, hc => by
    rw [sg_join_cons]
    rcases List.mem_cons.mp h with rfl | h
    · exact List.mem_append_left _ hc
    · exact List.mem_append_right _ (List.mem_cons_of_mem _ (mem_join k (q' :: ps) p c h hc))
theorem split_signs {x p : Str} {k c : Nat} (h : p ∈ Txt.split x ⟨#[k]⟩) (hc : c ∈ sg p) : c ∈ sg x := by
  have := mem_join k _ p c h hc
  rw [StrLaws.join_split] at this
  exact this
theorem Tx.split {L k : Nat} {x : Str} (h : Tx L x) : Wl (L + 1) (Txt.split x ⟨#[k]⟩) :=
  ⟨Nat.le_trans (split_weight x ⟨#[k]⟩ (Nat.le_refl 1)) (Nat.add_le_add_right h.1 1), fun w hw c hc => h.2 c (split_signs hw hc)⟩
theorem Wl.len {L : Nat} {ws : List Str} (h : Wl L ws) : ws.length ≤ L := by
  have := h.1
  unfold wt at this
  omega
theorem le_sum_mem : ∀ {l : List Nat} {n : Nat}, n ∈ l → n ≤ l.sum
  | [], _, h => by cases h
  | a :: l, n, h => by
    rw [List.sum_cons]
    rcases List.mem_cons.mp h with rfl | h
    · omega
    · have := le_sum_mem h
      omega
theorem Wl.word {L : Nat} {ws : List Str} (h : Wl L ws) : ∀ w ∈ ws, Tx L w := fun w hw => ⟨by
  have h1 := h.1
  unfold wt at h1
  have : w.length ≤ (ws.map (·.length)).sum := le_sum_mem (List.mem_map_of_mem hw)
  omega, h.2 w hw⟩
theorem Wl.join {L k : Nat} {ws : List Str} (h : Wl L ws) (hk : k < 1000) : Tx L (Str.join ⟨#[k]⟩ ws) := by
  refine ⟨?_, fun c hc => ?_⟩
  · have h1 := join_nlen ⟨#[k]⟩ ws
    have h2 := h.1
    unfold wt at h2
    have : (⟨#[k]⟩ : Str).length = 1 := rfl
    rw [this] at h1
    omega
  · rcases sg_join_mem k ws c hc with rfl | ⟨p, hp, hc⟩
    · exact hk
    · exact h.2 p hp c hc
theorem Wl.joinG {L k : Nat} {ws : List Str} (h : Wl L ws) (hl : L ≤ 1000000) : TD.joinG (.str ⟨#[k]⟩) [.nd .lst (ws.map .str)] = some (.str (Str.join ⟨#[k]⟩ ws), false) := by
  refine joinG_lst ⟨#[k]⟩ ws ?_
  have h2 := h.1
  unfold wt at h2
  have : (⟨#[k]⟩ : Str).length = 1 := rfl
  rw [this]
  omega
theorem Tx.app {L M : Nat} {x y : Str} (h : Tx L x) (g : Tx M y) : Tx (L + M) (x ++ y) := ⟨by rw [Str.length_append]; exact Nat.add_le_add h.1 g.1, fun c hc => by
  rw [sg_app] at hc
  exact (List.mem_append.mp hc).elim (h.2 c) (g.2 c)⟩
theorem Tx.cutS {L : Nat} {x : Str} {lo hi : Option Int} (h : Tx L x) : Tx L (L2.cutS x lo hi) := ⟨Nat.le_trans (L2.cutS_length x lo hi) h.1, fun c hc => by
  unfold L2.cutS sg at hc
  rw [List.toList_toArray] at hc
  exact h.2 c (List.mem_of_mem_drop (List.mem_of_mem_take hc))⟩
theorem Tx.dt {L k : Nat} {x : Str} (h : Tx L x) : Dt k (.str x) := .str (strOk_of h.2)
/-! figures back -/
theorem dv_snoc (cs : List Nat) (d : Nat) : digitsVal (cs ++ [d]) = digitsVal cs * 10 + (d - 48) := by
  unfold digitsVal
  rw [List.foldl_append]
  rfl
theorem char_back : ∀ d : Nat, d < 10 → (d.digitChar).toNat = d + 48 := by decide
theorem dig_back : ∀ (n : Nat) (cs : List Nat), cs.length = n → AllDigits cs → cs ≠ [] → cs.head? ≠ some 48 → 0 < digitsVal cs ∧ (Nat.toDigits 10 (digitsVal cs)).map Char.toNat = cs := by
  intro n
  induction n with
  | zero => intro cs h _ h2; exact absurd (List.length_eq_zero_iff.mp h) h2
  | succ n ih =>
    intro cs hl hd hn hh
    obtain ⟨as, d, rfl⟩ : ∃ as d, cs = as ++ [d] := ⟨cs.dropLast, cs.getLast hn, (List.dropLast_concat_getLast hn).symm⟩
    have hdd := hd d (by simp)
    rw [dv_snoc]
    by_cases ha : as = []
    · subst ha
      have hd48 : d ≠ 48 := by simpa using hh
      have e0 : digitsVal [] = 0 := rfl
      rw [e0, Nat.zero_mul, Nat.zero_add]
      refine ⟨by omega, ?_⟩
      rw [Nat.toDigits_of_lt_base (by omega)]
      simp only [List.map_cons, List.map_nil, List.nil_append]
      rw [char_back _ (by omega)]
      congr 1
      omega
    · obtain ⟨p, e⟩ := ih as (by simp at hl; exact hl) (fun c hc => hd c (List.mem_append_left _ hc)) ha (by
        cases as with
        | nil => exact absurd rfl ha
        | cons a as => simpa using hh)
      refine ⟨by omega, ?_⟩
      rw [Nat.toDigits_of_base_le (by decide) (by omega)]
      have e1 : (digitsVal as * 10 + (d - 48)) / 10 = digitsVal as := by omega
      have e2 : (digitsVal as * 10 + (d - 48)) % 10 = d - 48 := by omega
      rw [e1, e2, List.map_append, e]
      simp only [List.map_cons, List.map_nil]
      rw [char_back _ (by omega)]
      congr 2
      omega
theorem val_num {most : Int} {x : Str} (h : figB most x = true) : numS (valW x) = x := by
  obtain ⟨h1, h2, _, _⟩ := figB_all h
  unfold figB at h
  simp only [Bool.and_eq_true, Bool.or_eq_true, decide_eq_true_eq, Bool.not_eq_true', decide_eq_false_iff_not] at h
  rcases h.2 with h3 | h3
  · rw [h3]
    decide +kernel
  · apply str_ext
    unfold valW
    rw [numS_nat]
    exact (dig_back _ _ rfl h1 h2 h3).2
theorem valW_ge (x : Str) : 0 ≤ valW x := by unfold valW; omega
theorem toEd_back {ws : List Str} {e : Ed} {most : Int} (h : toEd most ws = some e) : e.ws.map wS = ws := by
  unfold toEd at h
  split at h
  · split at h
    · rename_i h0
      have ha := val_num h0.1
      split at h
      · rename_i hc
        split at h
        · split at h
          · cases h
            rename_i hz
            simp [Ed.ws, Wt.ws, wS, ha, val_num hz.2.1, val_num hz.2.2.1, val_num hz.2.2.2, hc]
          · cases h
        · cases h
      · split at h
        · rename_i hc
          split at h
          · split at h
            · cases h
              simp [Ed.ws, Wt.ws, wS, ha, hc]
            · cases h
          · cases h
        · split at h
          · rename_i hc
            split at h
            · split at h
              · cases h
                simp [Ed.ws, Wt.ws, wS, ha, hc]
              · cases h
            · cases h
          · split at h
            · rename_i hc
              split at h
              · split at h
                · cases h
                  simp [Ed.ws, Wt.ws, wS, ha, hc]
                · cases h
              · cases h
            · split at h
              · rename_i hc
                split at h
                · split at h
                  · cases h
                    rename_i hz
                    simp [Ed.ws, Wt.ws, wS, ha, val_num hz.1, hc]
                  · cases h
                · cases h
              · cases h
    · cases h
  · cases h
theorem ws_small {e : Ed} (h : e.okB = true) : ∀ x ∈ e.ws, ∀ c ∈ sg (wS x), c < 1000 := by
  have k1 : ∀ {n : Str}, nmB n = true → ∀ c ∈ sg n, c < 1000 := fun h => nmB_small h
  have k2 : ∀ {i : Int}, 0 ≤ i → ∀ c ∈ sg (numS i), c < 1000 := fun {i} h c hc => by
    obtain ⟨m, rfl⟩ := Int.eq_ofNat_of_zero_le h
    have := figs_all m c hc
    omega
  have k3 : ∀ s ∈ ["road", "drop", "ban", "free", "undo"], ∀ c ∈ sg (Str.ofString s), c < 1000 := by decide +kernel
  obtain ⟨st, hand, w⟩ := e
  simp only [Ed.okB, Bool.and_eq_true, stB, wiB_iff] at h
  obtain ⟨h1, h2, h3⟩ := h
  intro x hx
  simp only [Ed.ws, List.mem_cons] at hx
  rcases hx with rfl | rfl | hx
  · exact k2 h1.1
  · exact k1 h2
  cases w <;> simp only [Wt.okB, Bool.and_eq_true, rdB, plB, stB, wiB_iff, decide_eq_true_eq] at h3 <;> simp only [Wt.ws, List.mem_cons, List.not_mem_nil, or_false] at hx
  · rcases hx with rfl | rfl | rfl | rfl | rfl
    · exact k3 _ (by simp)
    · exact k1 h3.1
    · exact k2 (by omega)
    · exact k2 (by omega)
    · exact k2 (by omega)
  · rcases hx with rfl | rfl
    · exact k3 _ (by simp)
    · exact k1 h3
  · rcases hx with rfl | rfl | rfl
    · exact k3 _ (by simp)
    · exact k1 h3.1
    · exact k1 h3.2
  · rcases hx with rfl | rfl | rfl
    · exact k3 _ (by simp)
    · exact k1 h3.1
    · exact k1 h3.2
  · rcases hx with rfl | rfl | rfl
    · exact k3 _ (by simp)
    · exact k2 (by omega)
    · exact k1 h3.2
end TD

end
section
set_option maxRecDepth 100000
set_option maxHeartbeats 4000000
/-! V1: the law's own reader of words. -/
namespace TD.K75
open PySem PySem.NumText PyProof.Rows
theorem fil_nil {p : Nat → Bool} (l : List Nat) : decide (((l.filter p).map fun c => D.str ⟨#[c]⟩) ≠ []) = !(l.all fun c => !p c) := by
  induction l with
  | nil => rfl
  | cons a l ih =>
    rw [List.filter_cons, List.all_cons]
    cases h : p a with
    | true => simp
    | false => simp only [Bool.false_eq_true, if_false, Bool.not_false, Bool.true_and]; exact ih
theorem fil_dt {p : Nat → Bool} {l : List Nat} (h : ∀ c ∈ l, c < 1000) : Dt 1 (.nd .lst ((l.filter p).map fun c => D.str ⟨#[c]⟩)) := Dt.lst fun d hd => by
  obtain ⟨c, hc, rfl⟩ := List.mem_map.mp hd
  exact .str (strOk_of fun k hk => by
    have : k = c := by simpa [sg] using hk
    rw [this]
    exact h c (List.mem_filter.mp hc).1)
theorem law_figures_ev (w : Str) (k : Int) (h : List D) (L : Nat) (hw : Tx L w) (hL : L ≤ 1000000) : F__law_figures [.str w, .int k] h = .ok (.bl (figB k w)) false h := by
  have hx : w.length ≤ sizeLine := by have := hw.1; rw [sizeLine_eq]; omega
  have e1 : eLc (iStr (aVar 0)) [2] (gtName 2) L__law_figures_1 L__law_figures_2 ⟨[.fz (.str w), .fz (.int k), .un], h⟩ = .ok (.nd .lst (((sg w).filter fun c => !decide (c ∈ FG)).map fun c => .str ⟨#[c]⟩), true) ⟨[.fz (.str w), .fz (.int k), .un], h⟩ := by
    simp
    rw [lcL_filT (fun c => D.str ⟨#[c]⟩) (fun c => D.str ⟨#[c]⟩) (fun c => !decide (c ∈ FG))]
    · simp
    · intro c hc
      have e : inG true (.str ⟨#[c]⟩) (.str (Str.ofString "0123456789")) = some (.bl (!decide (c ∈ FG)), false) := by simp [inG, FG]
      refine ⟨_, _, by simp; rfl, by simp [A__law_figures_1, e]; rfl, ?_⟩
      by_cases hm : c ∈ FG
      · exact .inl (by simp [hm])
      · exact .inr (by simp [hm, A__law_figures_2])
    · rw [List.length_nil, Nat.zero_add]
      exact sg_len w ▸ hx
  have e2 := neG_nil (fil_dt (p := fun c => !decide (c ∈ FG)) hw.2) (by decide)
  rw [fil_nil] at e2
  simp only [Bool.not_not] at e2
  generalize (((sg w).filter fun c => !decide (c ∈ FG)).map fun c => D.str ⟨#[c]⟩) = X at *
  rw [E__law_figures]
  by_cases h0 : w = Str.ofString ""
  · subst h0
    have : figB k (Str.ofString "") = false := by
      have e : (Str.ofString "").length = 0 := by decide +kernel
      simp [figB, e]
    simp [B__law_figures, List.replicate, this]
  · obtain ⟨c, r, ec⟩ : ∃ c r, sg w = c :: r := by
      cases eg : sg w with
      | nil => exact absurd (str_ext (by rw [eg]; decide +kernel)) h0
      | cons c r => exact ⟨c, r, rfl⟩
    have hl := sg_len w
    rw [ec, List.length_cons] at hl
    have ei := ixG_s0 w hx c r ec
    have en : neG (.str ⟨#[c]⟩) (.str (Str.ofString "0")) = some (.bl (!decide (c = 48)), false) := by
      rw [neG_str, str0]
      simp
    have g1 : (1 : Int) ≤ (w.length : Int) := by omega
    have eh : (sg w).head? = some c := by rw [ec]; rfl
    unfold figB
    rw [decide_eq_true g1, eh]
    by_cases h2 : (w.length : Int) ≤ k
    · have h2' : ¬ k < (w.length : Int) := by omega
      rw [decide_eq_true h2]
      generalize ((sg w).all fun c => decide (c ∈ FG)) = A at *
      cases A with
      | false => simp [B__law_figures, List.replicate, h0, hx, h2', -eLc_ap, e1, e2]
      | true =>
        by_cases h3 : w = Str.ofString "0"
        · have e4 : eqG (.str w) (.str (Str.ofString "0")) = some (.bl true, false) := by rw [eqG_str, decide_eq_true h3]
          have e5 : eqG (.str w) (.str (Str.ofString "")) = some (.bl false, false) := by rw [eqG_str, decide_eq_false h0]
          rw [decide_eq_true h3]
          simp [B__law_figures, List.replicate, hx, h2', -eLc_ap, e1, e2, -eqG_str, e4, e5]
        · have e4 : eqG (.str w) (.str (Str.ofString "0")) = some (.bl false, false) := by rw [eqG_str, decide_eq_false h3]
          have e5 : eqG (.str w) (.str (Str.ofString "")) = some (.bl false, false) := by rw [eqG_str, decide_eq_false h0]
          rw [decide_eq_false h3]
          simp [B__law_figures, List.replicate, hx, h2', -eLc_ap, e1, e2, -eqG_str, e4, e5, ei, -neG_str, en]
    · have h2' : k < (w.length : Int) := by omega
      simp [B__law_figures, List.replicate, h0, hx, h2', h2]
theorem law_name_ev (w : Str) (h : List D) (L : Nat) (hw : Tx L w) (hL : L ≤ 1000000) : F__law_name_is [.str w] h = .ok (.bl (nmB w)) false h := by
  have hx : w.length ≤ sizeLine := by have := hw.1; rw [sizeLine_eq]; omega
  have e1 : eLc (iStr (aVar 0)) [1] (gtName 1) L__law_name_is_1 L__law_name_is_2 ⟨[.fz (.str w), .un], h⟩ = .ok (.nd .lst (((sg w).filter fun c => !decide (c ∈ SG)).map fun c => .str ⟨#[c]⟩), true) ⟨[.fz (.str w), .un], h⟩ := by
    simp
    rw [lcL_filT (fun c => D.str ⟨#[c]⟩) (fun c => D.str ⟨#[c]⟩) (fun c => !decide (c ∈ SG))]
    · simp
    · intro c hc
      have e : inG true (.str ⟨#[c]⟩) (.str (Str.ofString "abcdefghijklmnopqrstuvwxyz0123456789")) = some (.bl (!decide (c ∈ SG)), false) := by simp [inG, SG]
      refine ⟨_, _, by simp; rfl, by simp [A__law_name_is_1, e]; rfl, ?_⟩
      by_cases hm : c ∈ SG
      · exact .inl (by simp [hm])
      · exact .inr (by simp [hm, A__law_name_is_2])
    · rw [List.length_nil, Nat.zero_add]
      exact sg_len w ▸ hx
  have hdt := fil_dt (p := fun c => !decide (c ∈ SG)) hw.2
  have e2 := neG_nil hdt (by decide)
  have e3 := eqG_nil hdt (by decide)
  have e4 : decide ((((sg w).filter fun c => !decide (c ∈ SG)).map fun c => D.str ⟨#[c]⟩) = []) = ((sg w).all fun c => decide (c ∈ SG)) := by
    have := fil_nil (p := fun c => !decide (c ∈ SG)) (sg w)
    simp only [Bool.not_not] at this
    have k : ∀ (b c : Bool), (!b) = !c → b = c := by decide
    refine k _ _ ?_
    rw [← this]
    simp only [ne_eq, decide_not]
  rw [e4] at e3
  generalize (((sg w).filter fun c => !decide (c ∈ SG)).map fun c => D.str ⟨#[c]⟩) = X at *
  rw [E__law_name_is]
  unfold nmB
  generalize ((sg w).all fun c => decide (c ∈ SG)) = A at *
  by_cases h1 : (1 : Int) ≤ (w.length : Int) <;> by_cases h2 : (w.length : Int) ≤ 8 <;> simp [B__law_name_is, h1, h2, hx, -eLc_ap, e1, e3]
end TD.K75

end
section
set_option maxRecDepth 100000
set_option maxHeartbeats 4000000
/-! V2: the law's own reader of rows. -/
namespace TD.K75
open PySem PySem.NumText PyProof.Rows
theorem words_loop (fm : D) (wl : D) (most : Int) (h : List D) (hm : most ≤ 640) : ∀ (ps : List (Nat × Str)) (acc : List D) (a b : Sl), a.nl = true → b.nl = true → (∀ p ∈ ps, Tx 1000000 p.2) → acc.length + ps.length ≤ 1000 →
    (ps.all (fun p => goodW most p.1 p.2) = true ∧ ∃ a' b', forL .non .non (gtTup 2 (gtCons (gtName 4) (gtCons (gtName 5) gtNil))) L__law_words_1 (ps.map fun p => D.nd .tup [.str ⟨#[p.1]⟩, .str p.2]) ⟨[.fz fm, .fz wl, .fz (.int most), .own false (.nd .lst acc), a, b], h⟩ = .nx ⟨[.fz fm, .fz wl, .fz (.int most), .own false (.nd .lst (acc ++ ps.map fun p => valD p.1 p.2)), a', b'], h⟩) ∨
    (ps.all (fun p => goodW most p.1 p.2) = false ∧ ∃ r', forL .non .non (gtTup 2 (gtCons (gtName 4) (gtCons (gtName 5) gtNil))) L__law_words_1 (ps.map fun p => D.nd .tup [.str ⟨#[p.1]⟩, .str p.2]) ⟨[.fz fm, .fz wl, .fz (.int most), .own false (.nd .lst acc), a, b], h⟩ = .rt .non false ⟨r', h⟩)
  | [], acc, a, b, _, _, _, _ => .inl ⟨rfl, a, b, by rw [List.map_nil]; unfold forL; simp⟩
  | (c, w) :: ps, acc, a, b, ha, hb, hw, hl => by
    have hx := hw (c, w) (List.mem_cons_self ..)
    rw [List.length_cons] at hl
    have hs : acc.length < sizeLine := by rw [sizeLine_eq]; omega
    rw [List.map_cons, List.all_cons]
    unfold forL
    by_cases hc : c = 100
    · subst hc
      have ed : Str.ofString "d" = ⟨#[100]⟩ := by decide +kernel
      have e1 := law_figures_ev w most h _ hx (by decide)
      cases hg : figB most w with
      | false =>
        rw [hg] at e1
        exact .inr ⟨by simp [goodW, hg], _, by simp [A__law_words_1, ha, hb, ed, e1]; rfl⟩
      | true =>
        rw [hg] at e1
        have ei := figB_int hg hm
        rcases words_loop fm wl most h hm ps (acc ++ [.int (valW w)]) (.fz (.str ⟨#[100]⟩)) (.fz (.str w)) rfl rfl (fun p hp => hw p (List.mem_cons_of_mem _ hp)) (by rw [List.length_append, List.length_singleton]; omega) with ⟨g1, a', b', g2⟩ | ⟨g1, r', g2⟩
        · refine .inl ⟨by rw [g1, show goodW most 100 w = true from by simp [goodW, hg]]; rfl, a', b', ?_⟩
          simp [A__law_words_1, ha, hb, ed, e1, ei, hs]
          rw [g2]
          simp [valD]
        · refine .inr ⟨by rw [g1]; simp, r', ?_⟩
          simp [A__law_words_1, ha, hb, ed, e1, ei, hs]
          rw [g2]
    · have ed : ¬ ((⟨#[c]⟩ : Str) = Str.ofString "d") := by
        rw [show Str.ofString "d" = ⟨#[100]⟩ from by decide +kernel]
        intro e
        injection e with e
        simp at e
        exact hc e
      have e1 := law_name_ev w h _ hx (by decide)
      cases hg : nmB w with
      | false =>
        rw [hg] at e1
        exact .inr ⟨by simp [goodW, hc, hg], _, by simp [A__law_words_1, ha, hb, ed, e1]; rfl⟩
      | true =>
        rw [hg] at e1
        rcases words_loop fm wl most h hm ps (acc ++ [.str w]) (.fz (.str ⟨#[c]⟩)) (.fz (.str w)) rfl rfl (fun p hp => hw p (List.mem_cons_of_mem _ hp)) (by rw [List.length_append, List.length_singleton]; omega) with ⟨g1, a', b', g2⟩ | ⟨g1, r', g2⟩
        · refine .inl ⟨by rw [g1, show goodW most c w = true from by simp [goodW, hc, hg]]; rfl, a', b', ?_⟩
          simp [A__law_words_1, ha, hb, ed, e1, hs]
          rw [g2]
          simp [valD, hc]
        · refine .inr ⟨by rw [g1]; simp, r', ?_⟩
          simp [A__law_words_1, ha, hb, ed, e1, hs]
          rw [g2]
theorem law_words_ev (fm : Str) (ws : List Str) (most : Int) (h : List D) (hf : fm.length ≤ 100) (hm : most ≤ 640) (hw : ∀ w ∈ ws, Tx 1000000 w) (hl : ws.length ≤ 10000000) : F__law_words [.str fm, .nd .lst (ws.map .str), .int most] h = .ok (orN (toldO most (sg fm) ws)) false h := by
  have hf2 : fm.length ≤ sizeLine := by rw [sizeLine_eq]; omega
  have hl2 : ws.length ≤ sizeLine := by rw [sizeLine_eq]; omega
  rw [E__law_words]
  unfold toldO
  rw [sg_len]
  by_cases e : fm.length = ws.length
  · have ez : zipD (signsD fm) (ws.map .str) = ((sg fm).zip ws).map fun p => D.nd .tup [.str ⟨#[p.1]⟩, .str p.2] := zipD_map (fun c => .str ⟨#[c]⟩) D.str (sg fm) ws
    rcases words_loop (.str fm) (.nd .lst (ws.map .str)) most h hm ((sg fm).zip ws) [] .un .un rfl rfl (fun p hp => hw p.2 (List.of_mem_zip hp).2) (by rw [List.length_nil, List.length_zip, sg_len]; omega) with ⟨g1, a', b', g2⟩ | ⟨g1, r', g2⟩
    · rw [if_neg (fun z => z e), if_pos g1]
      simp [B__law_words, List.replicate, hf2, hl2, e, ez]
      rw [g2]
      simp [orN]
    · rw [if_neg (fun z => z e), if_neg (by rw [g1]; decide)]
      simp [B__law_words, List.replicate, hf2, hl2, e, ez]
      rw [g2]
      simp [orN]
  · have e' : ¬ ((fm.length : Int) = (ws.length : Int)) := by omega
    rw [if_pos e]
    simp [B__law_words, List.replicate, hf2, hl2, e', orN]
/-- a row that tells an edit -/
def isRow (row : Str) : Bool := match toEd 13 (Txt.split row ⟨#[32]⟩) with
  | some e => e.okB
  | none => false
theorem road_ok {va vx vy vz : Int} {b n : Str} (hb : nmB b = true) (hn : nmB n = true) (ha : 0 ≤ va) (hx : 0 ≤ vx) (hy : 0 ≤ vy) : (Ed.mk va b (.road n vx vy vz)).okB = (decide (va ≤ 1000000) && (decide (vx ≤ 999) && (decide (vy ≤ 999) && (!decide (vx = vy) && (decide (1 ≤ vz) && decide (vz ≤ 1000000)))))) := by
  rw [Bool.eq_iff_iff]
  simp only [Ed.okB, Wt.okB, rdB, plB, stB, wiB, hb, hn, Bool.and_eq_true, decide_eq_true_eq, Bool.not_eq_true', decide_eq_false_iff_not, true_and]
  omega
theorem plain_ok {va : Int} {b : Str} (w : Wt) (hb : nmB b = true) (ha : 0 ≤ va) (hw : w.okB = true) : (Ed.mk va b w).okB = decide (va ≤ 1000000) := by
  rw [Bool.eq_iff_iff]
  simp only [Ed.okB, hw, stB, wiB, hb, Bool.and_eq_true, decide_eq_true_eq, and_true]
  omega
theorem undo_ok {va vi : Int} {b n : Str} (hb : nmB b = true) (hn : nmB n = true) (ha : 0 ≤ va) (hi : 0 ≤ vi) : (Ed.mk va b (.undo vi n)).okB = (decide (va ≤ 1000000) && decide (vi ≤ 1000000)) := by
  rw [Bool.eq_iff_iff]
  simp only [Ed.okB, Wt.okB, stB, wiB, hb, hn, Bool.and_eq_true, decide_eq_true_eq, and_true, true_and]
  omega
/-- what the law reads ahead of the word and behind it -/
theorem is_row_at (row a b c : Str) (r : List Str) (fm : Str) (h : List D) (hx : Tx 900000 row) (es : Txt.split row ⟨#[32]⟩ = a :: b :: c :: r) (hr : r ≠ []) (hc : c ∈ ["road", "drop", "ban", "free", "undo"].map Str.ofString) (hl : litAt [("road", "nddd"), ("drop", "n"), ("ban", "nn"), ("free", "nn"), ("undo", "dn")] c = some fm) (hf : fm.length ≤ 100)
    (hz : toldO 13 (sg ("dn" : String)) [a, b] = none ∨ toldO 13 (sg fm) r = none) : F__law_is_row [.str row] h = .ok (.bl false) false h := by
  have hw := hx.split (k := 32)
  have hwd := hw.word
  have hlen := hw.len
  rw [es] at hwd hlen
  have e0 : splitG (.str row) [.str (Str.ofString " ")] = some (.nd .lst (.str a :: .str b :: .str c :: r.map .str), true) := by
    rw [lit_sp, splitG_one row 32 (by have := hx.1; rw [sizeLine_eq]; omega), es]
    rfl
  have n1 : ¬ ((r.length : Int) + 1 + 1 + 1 < 4) := by
    have : r.length ≠ 0 := fun z => hr (List.length_eq_zero_iff.mp z)
    omega
  have ein := inG_strs true c (["road", "drop", "ban", "free", "undo"].map Str.ofString) .lst (.inl rfl)
  rw [decide_eq_true hc] at ein
  simp only [List.map_cons, List.map_nil] at ein
  have c1 : cutL (D.str a :: D.str b :: D.str c :: r.map D.str) none (some 2) = [D.str a, D.str b] := by
    unfold cutL HT.sIx
    simp
  have c2 : cutL (D.str a :: D.str b :: D.str c :: r.map D.str) (some 3) none = r.map D.str := by
    unfold cutL HT.sIx
    simp
    exact List.take_of_length_le (by simp)
  have w1 := law_words_ev ("dn" : String) [a, b] 13 h (by decide +kernel) (by decide) (fun w hm => (hwd w (by simp at hm ⊢; rcases hm with rfl | rfl <;> simp)).mono (by decide)) (by simp)
  have w2 := law_words_ev fm r 13 h hf (by decide) (fun w hm => (hwd w (by simp [hm])).mono (by decide)) (by simp at hlen; omega)
  simp only [List.map_cons, List.map_nil] at w1
  rw [E__law_is_row]
  rcases hz with hz | hz
  · rw [hz] at w1
    simp only [orN] at w1
    simp [B__law_is_row, List.replicate, e0, n1, ein, hl, c1, c2, w1, w2]
  · rw [hz] at w2
    simp only [orN] at w2
    cases h1 : toldO 13 (sg ("dn" : String)) [a, b] with
    | none =>
      rw [h1] at w1
      simp only [orN] at w1
      simp [B__law_is_row, List.replicate, e0, n1, ein, hl, c1, c2, w1, w2]
    | some x =>
      rw [h1] at w1
      simp only [orN] at w1
      simp [B__law_is_row, List.replicate, e0, n1, ein, hl, c1, c2, w1, w2]
theorem is_row_ok (row a b c : Str) (r : List Str) (fm : Str) (ds : List D) (h : List D) (hx : Tx 900000 row) (es : Txt.split row ⟨#[32]⟩ = a :: b :: c :: r) (hr : r ≠ []) (hc : c ∈ ["road", "drop", "ban", "free", "undo"].map Str.ofString) (hl : litAt [("road", "nddd"), ("drop", "n"), ("ban", "nn"), ("free", "nn"), ("undo", "dn")] c = some fm) (hf : fm.length ≤ 100)
    (ha : figB 13 a = true ∧ nmB b = true) (hz : toldO 13 (sg fm) r = some ds) (B : Bool) (hB : (c = Str.ofString "undo" ∧ ∃ (i : Int) (t : List D), ds = .int i :: t ∧ B = decide (i ≤ 1000000)) ∨
      (c = Str.ofString "road" ∧ ∃ (n : Str) (x y z : Int), ds = [.str n, .int x, .int y, .int z] ∧ B = (decide (x ≤ 999) && (decide (y ≤ 999) && (!decide (x = y) && (decide (1 ≤ z) && decide (z ≤ 1000000)))))) ∨
      (c ≠ Str.ofString "undo" ∧ c ≠ Str.ofString "road" ∧ B = true)) : F__law_is_row [.str row] h = .ok (.bl (decide (valW a ≤ 1000000) && B)) false h := by
  have hw := hx.split (k := 32)
  have hwd := hw.word
  have hlen := hw.len
  rw [es] at hwd hlen
  have e0 : splitG (.str row) [.str (Str.ofString " ")] = some (.nd .lst (.str a :: .str b :: .str c :: r.map .str), true) := by
    rw [lit_sp, splitG_one row 32 (by have := hx.1; rw [sizeLine_eq]; omega), es]
    rfl
  have n1 : ¬ ((r.length : Int) + 1 + 1 + 1 < 4) := by
    have : r.length ≠ 0 := fun z => hr (List.length_eq_zero_iff.mp z)
    omega
  have ein := inG_strs true c (["road", "drop", "ban", "free", "undo"].map Str.ofString) .lst (.inl rfl)
  rw [decide_eq_true hc] at ein
  simp only [List.map_cons, List.map_nil] at ein
  have c1 : cutL (D.str a :: D.str b :: D.str c :: r.map D.str) none (some 2) = [D.str a, D.str b] := by
    unfold cutL HT.sIx
    simp
  have c2 : cutL (D.str a :: D.str b :: D.str c :: r.map D.str) (some 3) none = r.map D.str := by
    unfold cutL HT.sIx
    simp
    exact List.take_of_length_le (by simp)
  have w1 := law_words_ev ("dn" : String) [a, b] 13 h (by decide +kernel) (by decide) (fun w hm => (hwd w (by simp at hm ⊢; rcases hm with rfl | rfl <;> simp)).mono (by decide)) (by simp)
  have w2 := law_words_ev fm r 13 h hf (by decide) (fun w hm => (hwd w (by simp [hm])).mono (by decide)) (by simp at hlen; omega)
  rw [dn_told, if_pos ha] at w1
  rw [hz] at w2
  simp only [List.map_cons, List.map_nil, orN] at w1 w2
  have e10 : powG (.int 10) (.int 6) = some (.int 1000000, false) := by rw [powG_int 10 6 (by decide), show (10 : Int) ^ (6 : Int).toNat = 1000000 from by decide]
  rw [E__law_is_row]
  generalize valW a = va at *
  by_cases hva : va ≤ 1000000
  · have hva' : ¬ 1000000 < va := by omega
    rcases hB with ⟨rfl, i, t, rfl, rfl⟩ | ⟨rfl, n, x, y, z, rfl, rfl⟩ | ⟨hu, hrd, rfl⟩
    · simp [B__law_is_row, List.replicate, e0, n1, ein, hl, c1, c2, w1, w2, e10, hva, hva']
    · have nu : ¬ Str.ofString "road" = Str.ofString "undo" := by decide +kernel
      by_cases g1 : x ≤ 999
      · by_cases g2 : y ≤ 999
        · by_cases g3 : x = y
          · simp [B__law_is_row, List.replicate, e0, n1, ein, hl, c1, c2, w1, w2, e10, hva, hva', nu, g1, g2, g3]
          · by_cases g4 : 1 ≤ z <;> simp [B__law_is_row, List.replicate, e0, n1, ein, hl, c1, c2, w1, w2, e10, hva, hva', nu, g1, g2, g3, g4]
        · simp [B__law_is_row, List.replicate, e0, n1, ein, hl, c1, c2, w1, w2, e10, hva, hva', nu, g1, g2]
      · simp [B__law_is_row, List.replicate, e0, n1, ein, hl, c1, c2, w1, w2, e10, hva, hva', nu, g1]
    · simp [B__law_is_row, List.replicate, e0, n1, ein, hl, c1, c2, w1, w2, e10, hva, hva', hu, hrd]
  · have hva' : 1000000 < va := by omega
    simp [B__law_is_row, List.replicate, e0, n1, ein, hl, c1, c2, w1, w2, e10, hva, hva']
end TD.K75

end
section
set_option maxRecDepth 100000
set_option maxHeartbeats 4000000
/-! V3: rows and texts by the law's reader; what is due. -/
namespace TD.K75
open PySem PySem.NumText PyProof.Rows
theorem toEd_non {most : Int} {ws : List Str} (h : edD (toEd most ws) = .non) : toEd most ws = none := by
  cases e : toEd most ws with
  | none => rfl
  | some e' => rw [e] at h; cases h
theorem isRow_no {row a b c : Str} {r : List Str} {fm : Str} (hx : Tx 900000 row) (es : Txt.split row ⟨#[32]⟩ = a :: b :: c :: r) (hr : r ≠ []) (hc : tabAt tb_FORMS c = some (.str fm)) (hf : fm.length ≤ 1000) (hf1 : fm.length ≠ 0)
    (hz : toldO 13 (sg ("dn" : String)) [a, b] = none ∨ toldO 13 (sg fm) r = none) : isRow row = false := by
  have hw := hx.split (k := 32)
  have hwd := hw.word
  have hlen := hw.len
  rw [es] at hwd hlen
  have sz : ∀ w ∈ a :: b :: c :: r, w.length ≤ sizeLine := fun w hm => by have := (hwd w hm).1; rw [sizeLine_eq]; omega
  have e1 := edit_told_at a b c r fm 13 [] (by decide) sz (by simp at hlen; omega) hr hc hf hf1
  have e2 := edit_told_ev (a :: b :: c :: r) 13 [] (by decide) sz (by simp at hlen ⊢; omega)
  rw [e1] at e2
  injection e2 with e2
  have e3 : bothD c (toldO 13 (sg ("dn" : String)) [a, b]) (toldO 13 (sg fm) r) = .non := by
    rcases hz with hz | hz
    · rw [hz]; rfl
    · rw [hz]; cases toldO 13 (sg ("dn" : String)) [a, b] <;> rfl
  rw [e3] at e2
  unfold isRow
  rw [es, toEd_non e2.symm]
theorem is_row_short (row : Str) (h : List D) (hx : Tx 900000 row) (hl : (Txt.split row ⟨#[32]⟩).length < 4) : F__law_is_row [.str row] h = .ok (.bl false) false h := by
  have e0 : splitG (.str row) [.str (Str.ofString " ")] = some (.nd .lst ((Txt.split row ⟨#[32]⟩).map .str), true) := by
    rw [lit_sp, splitG_one row 32 (by have := hx.1; rw [sizeLine_eq]; omega)]
  have n1 : ((Txt.split row ⟨#[32]⟩).length : Int) < 4 := by omega
  rw [E__law_is_row]
  simp [B__law_is_row, List.replicate, e0, n1]
theorem is_row_none (row a b c x : Str) (r : List Str) (h : List D) (hx : Tx 900000 row) (es : Txt.split row ⟨#[32]⟩ = a :: b :: c :: x :: r) (hc : c ∉ ["road", "drop", "ban", "free", "undo"].map Str.ofString) : F__law_is_row [.str row] h = .ok (.bl false) false h := by
  have e0 : splitG (.str row) [.str (Str.ofString " ")] = some (.nd .lst (.str a :: .str b :: .str c :: .str x :: r.map .str), true) := by
    rw [lit_sp, splitG_one row 32 (by have := hx.1; rw [sizeLine_eq]; omega), es]
    rfl
  have n1 : ¬ ((r.length : Int) + 1 + 1 + 1 + 1 < 4) := by omega
  have ein := inG_strs true c (["road", "drop", "ban", "free", "undo"].map Str.ofString) .lst (.inl rfl)
  rw [decide_eq_false hc] at ein
  simp only [List.map_cons, List.map_nil] at ein
  rw [E__law_is_row]
  simp [B__law_is_row, List.replicate, e0, n1, ein]
theorem is_row_ev (row : Str) (h : List D) (hx : Tx 900000 row) : F__law_is_row [.str row] h = .ok (.bl (isRow row)) false h := by
  cases es : Txt.split row ⟨#[32]⟩ with
  | nil => exact absurd es (split_ne row 32)
  | cons a l1 =>
  cases l1 with
  | nil => rw [is_row_short row h hx (by rw [es]; simp)]; unfold isRow; rw [es]; rfl
  | cons b l2 =>
  cases l2 with
  | nil => rw [is_row_short row h hx (by rw [es]; simp)]; unfold isRow; rw [es]; rfl
  | cons c l3 =>
  cases l3 with
  | nil =>
    rw [is_row_short row h hx (by rw [es]; simp)]
    unfold isRow
    rw [es]
    have : toEd 13 [a, b, c] = none := by simp [toEd]
    rw [this]
  | cons x r =>
  have no : ∀ fm : Str, c ∈ ["road", "drop", "ban", "free", "undo"].map Str.ofString → litAt [("road", "nddd"), ("drop", "n"), ("ban", "nn"), ("free", "nn"), ("undo", "dn")] c = some fm → tabAt tb_FORMS c = some (.str fm) → fm.length ≤ 100 → fm.length ≠ 0 → (toldO 13 (sg ("dn" : String)) [a, b] = none ∨ toldO 13 (sg fm) (x :: r) = none) → F__law_is_row [.str row] h = .ok (.bl (isRow row)) false h :=
    fun fm g1 g2 g3 g4 g5 g6 => by rw [is_row_at row a b c (x :: r) fm h hx es (by simp) g1 g2 g4 g6, isRow_no hx es (by simp) g3 (by omega) g5 g6]
  by_cases hab : figB 13 a = true ∧ nmB b = true
  · have hva := valW_ge a
    by_cases h1 : c = ("road" : String)
    · subst h1
      have k1 : Str.ofString "road" ∈ ["road", "drop", "ban", "free", "undo"].map Str.ofString := by decide +kernel
      have k2 : litAt [("road", "nddd"), ("drop", "n"), ("ban", "nn"), ("free", "nn"), ("undo", "dn")] (Str.ofString "road") = some ("nddd" : String) := by decide +kernel
      rcases r with _ | ⟨y, _ | ⟨z, _ | ⟨v, _ | ⟨t, r⟩⟩⟩⟩
      · exact no _ k1 k2 fm_road (by decide +kernel) (by decide +kernel) (.inr (told_len 13 _ 4 (by decide +kernel) _ (by simp)))
      · exact no _ k1 k2 fm_road (by decide +kernel) (by decide +kernel) (.inr (told_len 13 _ 4 (by decide +kernel) _ (by simp)))
      · exact no _ k1 k2 fm_road (by decide +kernel) (by decide +kernel) (.inr (told_len 13 _ 4 (by decide +kernel) _ (by simp)))
      · by_cases hg : nmB x = true ∧ figB 13 y = true ∧ figB 13 z = true ∧ figB 13 v = true
        · rw [is_row_ok row a b _ [x, y, z, v] _ _ h hx es (by simp) k1 k2 (by decide +kernel) hab (by rw [nddd_told, if_pos hg]) _ (.inr (.inl ⟨rfl, _, _, _, _, rfl, rfl⟩))]
          unfold isRow
          rw [es]
          have : toEd 13 [a, b, Str.ofString "road", x, y, z, v] = some ⟨valW a, b, .road x (valW y) (valW z) (valW v)⟩ := by
            unfold toEd
            dsimp only
            rw [if_pos hab, if_pos rfl, if_pos hg]
          rw [this]
          dsimp only
          rw [road_ok hab.2 hg.1 hva (valW_ge _) (valW_ge _)]
        · exact no _ k1 k2 fm_road (by decide +kernel) (by decide +kernel) (.inr (by rw [nddd_told, if_neg hg]))
      · exact no _ k1 k2 fm_road (by decide +kernel) (by decide +kernel) (.inr (told_len 13 _ 4 (by decide +kernel) _ (by simp)))
    by_cases h2 : c = ("drop" : String)
    · subst h2
      have k1 : Str.ofString "drop" ∈ ["road", "drop", "ban", "free", "undo"].map Str.ofString := by decide +kernel
      have k2 : litAt [("road", "nddd"), ("drop", "n"), ("ban", "nn"), ("free", "nn"), ("undo", "dn")] (Str.ofString "drop") = some ("n" : String) := by decide +kernel
      rcases r with _ | ⟨y, r⟩
      · by_cases hg : nmB x = true
        · rw [is_row_ok row a b _ [x] _ _ h hx es (by simp) k1 k2 (by decide +kernel) hab (by rw [n_told, if_pos hg]) true (.inr (.inr ⟨by decide +kernel, by decide +kernel, rfl⟩))]
          unfold isRow
          rw [es]
          have : toEd 13 [a, b, Str.ofString "drop", x] = some ⟨valW a, b, .drop x⟩ := by
            unfold toEd
            dsimp only
            rw [if_pos hab, if_neg h1, if_pos rfl, if_pos hg]
          rw [this]
          dsimp only
          rw [plain_ok (.drop x) hab.2 hva hg, Bool.and_true]
        · exact no _ k1 k2 fm_drop (by decide +kernel) (by decide +kernel) (.inr (by rw [n_told, if_neg hg]))
      · exact no _ k1 k2 fm_drop (by decide +kernel) (by decide +kernel) (.inr (told_len 13 _ 1 (by decide +kernel) _ (by simp)))
    by_cases h3 : c = ("ban" : String)
    · subst h3
      have k1 : Str.ofString "ban" ∈ ["road", "drop", "ban", "free", "undo"].map Str.ofString := by decide +kernel
      have k2 : litAt [("road", "nddd"), ("drop", "n"), ("ban", "nn"), ("free", "nn"), ("undo", "dn")] (Str.ofString "ban") = some ("nn" : String) := by decide +kernel
      rcases r with _ | ⟨y, _ | ⟨z, r⟩⟩
      · exact no _ k1 k2 fm_ban (by decide +kernel) (by decide +kernel) (.inr (told_len 13 _ 2 (by decide +kernel) _ (by simp)))
      · by_cases hg : nmB x = true ∧ nmB y = true
        · rw [is_row_ok row a b _ [x, y] _ _ h hx es (by simp) k1 k2 (by decide +kernel) hab (by rw [nn_told, if_pos hg]) true (.inr (.inr ⟨by decide +kernel, by decide +kernel, rfl⟩))]
          unfold isRow
          rw [es]
          have : toEd 13 [a, b, Str.ofString "ban", x, y] = some ⟨valW a, b, .ban x y⟩ := by
            unfold toEd
            dsimp only
            rw [if_pos hab, if_neg h1, if_neg h2, if_pos rfl, if_pos hg]
          rw [this]
          dsimp only
          rw [plain_ok _ hab.2 hva (by simp [Wt.okB, hg]), Bool.and_true]
        · exact no _ k1 k2 fm_ban (by decide +kernel) (by decide +kernel) (.inr (by rw [nn_told, if_neg hg]))
      · exact no _ k1 k2 fm_ban (by decide +kernel) (by decide +kernel) (.inr (told_len 13 _ 2 (by decide +kernel) _ (by simp)))
    by_cases h4 : c = ("free" : String)
    · subst h4
      have k1 : Str.ofString "free" ∈ ["road", "drop", "ban", "free", "undo"].map Str.ofString := by decide +kernel
      have k2 : litAt [("road", "nddd"), ("drop", "n"), ("ban", "nn"), ("free", "nn"), ("undo", "dn")] (Str.ofString "free") = some ("nn" : String) := by decide +kernel
      rcases r with _ | ⟨y, _ | ⟨z, r⟩⟩
      · exact no _ k1 k2 fm_free (by decide +kernel) (by decide +kernel) (.inr (told_len 13 _ 2 (by decide +kernel) _ (by simp)))
      · by_cases hg : nmB x = true ∧ nmB y = true
        · rw [is_row_ok row a b _ [x, y] _ _ h hx es (by simp) k1 k2 (by decide +kernel) hab (by rw [nn_told, if_pos hg]) true (.inr (.inr ⟨by decide +kernel, by decide +kernel, rfl⟩))]
          unfold isRow
          rw [es]
          have : toEd 13 [a, b, Str.ofString "free", x, y] = some ⟨valW a, b, .free x y⟩ := by
            unfold toEd
            dsimp only
            rw [if_pos hab, if_neg h1, if_neg h2, if_neg h3, if_pos rfl, if_pos hg]
          rw [this]
          dsimp only
          rw [plain_ok _ hab.2 hva (by simp [Wt.okB, hg]), Bool.and_true]
        · exact no _ k1 k2 fm_free (by decide +kernel) (by decide +kernel) (.inr (by rw [nn_told, if_neg hg]))
      · exact no _ k1 k2 fm_free (by decide +kernel) (by decide +kernel) (.inr (told_len 13 _ 2 (by decide +kernel) _ (by simp)))
    by_cases h5 : c = ("undo" : String)
    · subst h5
      have k1 : Str.ofString "undo" ∈ ["road", "drop", "ban", "free", "undo"].map Str.ofString := by decide +kernel
      have k2 : litAt [("road", "nddd"), ("drop", "n"), ("ban", "nn"), ("free", "nn"), ("undo", "dn")] (Str.ofString "undo") = some ("dn" : String) := by decide +kernel
      rcases r with _ | ⟨y, _ | ⟨z, r⟩⟩
      · exact no _ k1 k2 fm_undo (by decide +kernel) (by decide +kernel) (.inr (told_len 13 _ 2 (by decide +kernel) _ (by simp)))
      · by_cases hg : figB 13 x = true ∧ nmB y = true
        · rw [is_row_ok row a b _ [x, y] _ _ h hx es (by simp) k1 k2 (by decide +kernel) hab (by rw [dn_told, if_pos hg]) _ (.inl ⟨rfl, _, _, rfl, rfl⟩)]
          unfold isRow
          rw [es]
          have : toEd 13 [a, b, Str.ofString "undo", x, y] = some ⟨valW a, b, .undo (valW x) y⟩ := by
            unfold toEd
            dsimp only
            rw [if_pos hab, if_neg h1, if_neg h2, if_neg h3, if_neg h4, if_pos rfl, if_pos hg]
          rw [this]
          dsimp only
          rw [undo_ok hab.2 hg.2 hva (valW_ge _)]
        · exact no _ k1 k2 fm_undo (by decide +kernel) (by decide +kernel) (.inr (by rw [dn_told, if_neg hg]))
      · exact no _ k1 k2 fm_undo (by decide +kernel) (by decide +kernel) (.inr (told_len 13 _ 2 (by decide +kernel) _ (by simp)))
    have hc : c ∉ ["road", "drop", "ban", "free", "undo"].map Str.ofString := by simp [h1, h2, h3, h4, h5]
    rw [is_row_none row a b c x r h hx es hc]
    unfold isRow
    rw [es]
    have : toEd 13 (a :: b :: c :: x :: r) = none := by
      unfold toEd
      dsimp only
      rw [if_pos hab, if_neg h1, if_neg h2, if_neg h3, if_neg h4, if_neg h5]
    rw [this]
  · have hnd : toldO 13 (sg ("dn" : String)) [a, b] = none := by rw [dn_told, if_neg hab]
    have hno : isRow row = false := by
      unfold isRow
      rw [es]
      have : toEd 13 (a :: b :: c :: x :: r) = none := by
        unfold toEd
        dsimp only
        rw [if_neg hab]
      rw [this]
    rw [hno]
    by_cases hc : c ∈ ["road", "drop", "ban", "free", "undo"].map Str.ofString
    · have key : ∃ fm : Str, litAt [("road", "nddd"), ("drop", "n"), ("ban", "nn"), ("free", "nn"), ("undo", "dn")] c = some fm ∧ fm.length ≤ 100 := by
        have all : ∀ c ∈ ["road", "drop", "ban", "free", "undo"].map Str.ofString, ((litAt [("road", "nddd"), ("drop", "n"), ("ban", "nn"), ("free", "nn"), ("undo", "dn")] c).any fun fm => decide (fm.length ≤ 100)) = true := by decide +kernel
        have := all c hc
        cases hfm : litAt [("road", "nddd"), ("drop", "n"), ("ban", "nn"), ("free", "nn"), ("undo", "dn")] c with
        | none => rw [hfm] at this; cases this
        | some fm => rw [hfm] at this; exact ⟨fm, rfl, by simpa using this⟩
      obtain ⟨fm, g1, g2⟩ := key
      exact is_row_at row a b c (x :: r) fm h hx es (by simp) hc g1 g2 (.inl hnd)
    · exact is_row_none row a b c x r h hx es hc
end TD.K75

end
section
set_option maxRecDepth 100000
set_option maxHeartbeats 4000000
/-! V4: what is due; a text is read as it is due. -/
namespace TD.K75
open PySem PySem.NumText PyProof.Rows
@[simp] theorem isN_exn (c : Str) (fs : List Str) (ds : List D) : isN (.exn c fs ds) = false := id rfl
theorem due_loop (x0 : D) (x1 : Sl) (nd : D) (h : List D) : ∀ (ps : List Str) (n : Nat) (a b : Sl), a.nl = true → b.nl = true → (∀ p ∈ ps, Tx 900000 p) →
    match readR 13 n ps with
    | .inl k => ∃ r', forL .non nd (gtTup 2 (gtCons (gtName 2) (gtCons (gtName 3) gtNil))) L__law_due_1 (enumD n (ps.map .str)) ⟨[.fz x0, x1, a, b], h⟩ = .rt (.int (k : Int)) false ⟨r', h⟩
    | .inr _ => ∃ a' b', forL .non nd (gtTup 2 (gtCons (gtName 2) (gtCons (gtName 3) gtNil))) L__law_due_1 (enumD n (ps.map .str)) ⟨[.fz x0, x1, a, b], h⟩ = .nx ⟨[.fz x0, x1, a', b'], h⟩
  | [], n, a, b, _, _, _ => ⟨a, b, by rw [List.map_nil]; unfold enumD forL; simp⟩
  | w :: ps, n, a, b, ha, hb, hw => by
    have e1 := is_row_ev w h (hw w (List.mem_cons_self ..))
    have ih := due_loop x0 x1 nd h ps (n + 1) (.fz (.int (n : Int))) (.fz (.str w)) rfl rfl fun p hp => hw p (List.mem_cons_of_mem _ hp)
    unfold isRow at e1
    rw [List.map_cons]
    unfold enumD forL readR
    cases ht : toEd 13 (Txt.split w ⟨#[32]⟩) with
    | none =>
      rw [ht] at e1
      exact ⟨_, by simp [A__law_due_1, ha, hb, e1]; rfl⟩
    | some e =>
      rw [ht] at e1
      dsimp only at e1 ⊢
      cases ho : e.okB with
      | false =>
        rw [ho] at e1
        exact ⟨_, by simp [A__law_due_1, ha, hb, e1]; rfl⟩
      | true =>
        rw [ho] at e1
        rw [if_pos rfl]
        cases hr : readR 13 (n + 1) ps with
        | inl k =>
          rw [hr] at ih
          obtain ⟨r', g⟩ := ih
          refine ⟨r', ?_⟩
          simp [A__law_due_1, ha, hb, e1]
          exact g
        | inr es =>
          rw [hr] at ih
          obtain ⟨a', b', g⟩ := ih
          refine ⟨a', b', ?_⟩
          simp [A__law_due_1, ha, hb, e1]
          exact g
/-- the text's rows and its rest -/
theorem split_last (t : Str) : ∃ ps q, Txt.split t ⟨#[10]⟩ = ps ++ [q] := by
  have h := split_ne t 10
  exact ⟨(Txt.split t ⟨#[10]⟩).dropLast, (Txt.split t ⟨#[10]⟩).getLast h, (List.dropLast_concat_getLast h).symm⟩
def dueD (ps : List Str) (q : Str) : D := match readR 13 0 ps with
  | .inl k => .int (k : Int)
  | .inr _ => if q = Str.empty then .non else .int (ps.length : Int)
theorem atI_last {α : Type} (xs : List α) (x : α) : L2.atI (xs ++ [x]) (-1) = some x := by
  unfold L2.atI L2.ixN
  rw [if_neg (by decide), if_pos (by simp; omega)]
  simp
  have : (-1 + ((xs.length : Int) + 1)).toNat = xs.length := by omega
  rw [this]
  simp
theorem due_ev (t : Str) (ps : List Str) (q : Str) (h : List D) (ht : Tx 800000 t) (e : Txt.split t ⟨#[10]⟩ = ps ++ [q]) : F__law_due [.str t] h = .ok (dueD ps q) false h := by
  have hw := ht.split (k := 10)
  have hwd := hw.word
  have hlen := hw.len
  rw [e] at hwd hlen
  have e0 : splitG (.str t) [.str (Str.ofString "\n")] = some (.nd .lst (ps.map .str ++ [.str q]), true) := by
    rw [lit_nl, splitG_one t 10 (by have := ht.1; rw [sizeLine_eq]; omega), e]
    simp
  have c1 : cutL (ps.map D.str ++ [D.str q]) none (some (-1)) = ps.map D.str := by
    unfold cutL HT.sIx
    simp
    have : (-1 + ((ps.length : Int) + 1)).toNat = ps.length := by omega
    rw [this]
    exact List.take_left' (by simp)
  have c2 : ixG (.nd .lst (ps.map D.str ++ [D.str q])) (.int (-1)) = some (.str q, false) := ixG_lst _ _ _ (atI_last _ _)
  have lp := due_loop (.str t) (.own false (.nd .lst (ps.map D.str ++ [D.str q]))) (.nd .lst (ps.map .str)) h ps 0 .un .un rfl rfl fun p hp => (hwd p (by simp [hp])).mono (by decide)
  rw [E__law_due]
  unfold dueD
  cases hr : readR 13 0 ps with
  | inl k =>
    rw [hr] at lp
    obtain ⟨r', g⟩ := lp
    simp [B__law_due, List.replicate, e0, c1, g]
  | inr es =>
    rw [hr] at lp
    obtain ⟨a', b', g⟩ := lp
    by_cases hq : q = Str.empty
    · subst hq
      simp [B__law_due, List.replicate, e0, c1, g, c2, lit_e]
    · simp [B__law_due, List.replicate, e0, c1, g, c2, lit_e, hq]
/-- edits that are read tell the text's rows -/
theorem read_line : ∀ (ps : List Str) (n : Nat) (es : List Ed), readR 13 n ps = .inr es → es.map Ed.line = ps ∧ ∀ e ∈ es, e.okB = true
  | [], n, es, h => by
    unfold readR at h
    cases h
    exact ⟨rfl, by simp⟩
  | w :: ps, n, es, h => by
    unfold readR at h
    cases ht : toEd 13 (Txt.split w ⟨#[32]⟩) with
    | none => rw [ht] at h; cases h
    | some e =>
      rw [ht] at h
      dsimp only at h
      cases ho : e.okB with
      | false => rw [ho] at h; cases h
      | true =>
        rw [ho, if_pos rfl] at h
        cases hr : readR 13 (n + 1) ps with
        | inl k => rw [hr] at h; cases h
        | inr es' =>
          rw [hr] at h
          cases h
          obtain ⟨g1, g2⟩ := read_line ps (n + 1) es' hr
          refine ⟨?_, fun x hx => ?_⟩
          · rw [List.map_cons, g1]
            congr 1
            unfold Ed.line
            rw [toEd_back ht, StrLaws.join_split]
          · rcases List.mem_cons.mp hx with rfl | hx
            · exact ho
            · exact g2 x hx
theorem text_back {t : Str} {ps : List Str} {es : List Ed} {n : Nat} (e : Txt.split t ⟨#[10]⟩ = ps ++ [Str.empty]) (h : readR 13 n ps = .inr es) : eds_text es = t := by
  obtain ⟨g1, _⟩ := read_line ps n es h
  have e1 : eds_text es = Str.join ⟨#[10]⟩ (es.map Ed.line ++ [Str.empty]) := by
    rw [← join_rows 10 (es.map Ed.line)]
    unfold eds_text
    rw [List.map_map]
    rw [show Ed.row = ((fun x => x ++ ⟨#[10]⟩) ∘ Ed.line) from funext Ed.row_line]
  rw [e1, g1, ← e, StrLaws.join_split]
theorem int_repr (k : Nat) (hk : k ≤ 1000000) : ∃ x, reprG [.int (k : Int)] = some (.str x, false) := (Rz.int (k := 0) (i := (k : Int)) (by omega) (by omega)).repr (by decide) (by decide)
theorem right_ex (x : D) (h : List D) (k : Nat) (hk : k ≤ 1000000) (h1 : F_read_edits [x] h = .ex ⟨"NoText", ["row"], [.int (k : Int)]⟩ h)
    (h2 : (∃ t, x = .str t ∧ F__law_due [x] h = .ok (.int (k : Int)) false h) ∨ (k = 0 ∧ (∀ r, S.look ⟨r, h⟩ (.v x) = some x) ∧ ∃ T, tyName x = some T ∧ isiB T "str" = false)) : F__law_right [x] h = .ok (.bl true) false h := by
  have k1 : xs_WayError.lookup (Str.ofString "NoText") = some true := by decide +kernel
  have k2 : xs_BadEdit.lookup (Str.ofString "NoText") = some false := by decide +kernel
  have k3 : xs_NoMap.lookup (Str.ofString "NoText") = some false := by decide +kernel
  have k4 : xs_NoTile.lookup (Str.ofString "NoText") = some false := by decide +kernel
  have k5 : xs_ValueError.lookup (Str.ofString "NoText") = some true := by decide +kernel
  have k6 : xs_NoText.lookup (Str.ofString "NoText") = some true := by decide +kernel
  have k7 : cs_row.contains (Str.ofString "NoText") = true := by decide +kernel
  have k7' : Str.ofString "NoText" ∈ cs_row := by simpa using k7
  have ein : inG true (.bl true) (.nd .lst [.bl false, .bl false, .bl false, .bl false]) = some (.bl true, false) := rfl
  obtain ⟨rp, hr⟩ := int_repr k hk
  rw [E__law_right]
  rcases h2 with ⟨t, rfl, h2⟩ | ⟨rfl, hx, T, ht, h3⟩
  · simp [B__law_right, List.replicate, h1, k1, h2, k2, k3, k4, k5, k6, k7', ein, hr]
  · simp at hr h1
    simp [B__law_right, List.replicate, h1, k1, hx, ht, -isiB_eq, h3, k2, k3, k4, k5, k6, k7', ein, hr]
theorem right_ev (t : Str) (h : List D) (ht : Tx 90000 t) : F__law_right [.str t] h = .ok (.bl true) false h := by
  obtain ⟨ps, q, e⟩ := split_last t
  have hw := ht.split (k := 10)
  have hlen := hw.len
  rw [e, List.length_append, List.length_singleton] at hlen
  have h1 := read_edits_ev t ps q h (by have := ht.1; omega) e
  have h2 := due_ev t ps q h (ht.mono (by decide)) e
  unfold dueD at h2
  cases hr : readR 13 0 ps with
  | inl k =>
    rw [hr] at h1 h2
    dsimp only at h1 h2
    have hk : ∀ (ps : List Str) (n k : Nat), readR 13 n ps = .inl k → k ≤ n + ps.length := by
      intro ps
      induction ps with
      | nil => intro n k h; cases h
      | cons w ps ih =>
        intro n k h
        unfold readR at h
        rw [List.length_cons]
        cases ht : toEd 13 (Txt.split w ⟨#[32]⟩) with
        | none => rw [ht] at h; cases h; omega
        | some e =>
          rw [ht] at h
          dsimp only at h
          split at h
          · cases hq : readR 13 (n + 1) ps with
            | inl k' =>
              rw [hq] at h
              cases h
              have := ih (n + 1) k hq
              omega
            | inr es => rw [hq] at h; cases h
          · cases h; omega
    exact right_ex _ h k (by have := hk ps 0 k hr; omega) h1 (.inl ⟨t, rfl, h2⟩)
  | inr es =>
    rw [hr] at h1 h2
    dsimp only at h1 h2
    by_cases hq : q = Str.empty
    · rw [if_pos hq] at h1 h2
      subst hq
      obtain ⟨g1, g2⟩ := read_line ps 0 es hr
      have g3 := text_back e hr
      have gl : es.length ≤ 100000 := by
        have := congrArg List.length g1
        rw [List.length_map] at this
        omega
      have h3 := edits_text_ev (.nd .lst (es.map Ed.d)) es h (.inl rfl) g2 gl
      rw [g3] at h3
      rw [E__law_right]
      simp [B__law_right, List.replicate, h1, h2, h3]
    · rw [if_neg hq] at h1 h2
      exact right_ex _ h ps.length (by omega) h1 (.inl ⟨t, rfl, h2⟩)
theorem right_no (x : D) (h : List D) (T : String) (hx : ∀ r, S.look ⟨r, h⟩ (.v x) = some x) (ht : tyName x = some T) (h1 : isiB T "str" = false) : F__law_right [x] h = .ok (.bl true) false h :=
  right_ex x h 0 (by decide) (read_edits_no x h T hx ht h1) (.inr ⟨rfl, hx, T, ht, h1⟩)
end TD.K75

end
section
set_option maxRecDepth 100000
set_option maxHeartbeats 4000000
/-! G1: draws. -/
namespace TD.K75
open PySem PySem.NumText PyProof.Rows
theorem mixed_ev (cell turn : Int) (h : List D) (h0 : 0 ≤ turn) (h1 : turn < 1000) : F__law_mixed [.int cell, .int turn] h = .ok (.int (mixV cell turn)) false h := by
  have e1 := modG_int cell 2147483399 (by decide)
  have e2 := mulG_int 104729 turn (.inl (by decide))
  have e3 := mulG_int (cell % 2147483399 + 104729 * turn + 11) 48271 (.inr (by decide))
  have e4 := modG_int ((cell % 2147483399 + 104729 * turn + 11) * 48271) 2147483399 (by decide)
  have e5 := powG_int ((cell % 2147483399 + 104729 * turn + 11) * 48271 % 2147483399) 5 ⟨by decide, by decide, by
    have a := Int.emod_nonneg ((cell % 2147483399 + 104729 * turn + 11) * 48271) (b := 2147483399) (by decide)
    have b := Int.emod_lt_of_pos ((cell % 2147483399 + 104729 * turn + 11) * 48271) (b := 2147483399) (by decide)
    omega⟩
  have e6 := modG_int (((cell % 2147483399 + 104729 * turn + 11) * 48271 % 2147483399) ^ 5) 2147483399 (by decide)
  have e7 : powG (.int 10) (.int 18) = some (.int (10 ^ 18), false) := powG_int 10 18 (by decide)
  have e8 := fdivG_int cell (10 ^ 18) (by decide)
  have e9 := mulG_int (turn + 1) 4014476939333036189094441199026045136645885247730 (.inl (by omega))
  have e10 := modG_int (cell / 10 ^ 18) (1 + (turn + 1) * 4014476939333036189094441199026045136645885247730) (by omega)
  have e11 := modG_int (((cell % 2147483399 + 104729 * turn + 11) * 48271 % 2147483399) ^ 5 % 2147483399 + cell / 10 ^ 18 % (1 + (turn + 1) * 4014476939333036189094441199026045136645885247730)) 2147483399 (by decide)
  rw [show (5 : Int).toNat = 5 from rfl] at e5
  unfold mixV
  rw [E__law_mixed]
  generalize (10 : Int) ^ 18 = q at *
  generalize ((cell % 2147483399 + 104729 * turn + 11) * 48271 % 2147483399) ^ 5 = p at *
  by_cases hc : cell < q <;> simp [B__law_mixed, List.replicate, e1, e2, e3, e4, e5, e6, e7, e8, e9, e10, e11, hc]
theorem next_ev (c : List Int) (n : Nat) (k : Int) (r : List D) (hc : c.length < 1000) (hk : 0 < k) : F__law_next [.ref 0, .int k] (drawD c n :: r) = .ok (.int (nx c n k)) false (drawD c (n + 1) :: r) := by
  rw [E__law_next]
  have hm : 1 ≤ max 1 c.length := Nat.le_max_left _ _
  have es : setLG (drawD c n) (.int 1) (.int ((n : Int) + 1)) = some (drawD c (n + 1)) := by
    unfold setLG drawD L2.ixN
    simp
  have e0 : ixG (drawD c n) (.int 1) = some (.int (n : Int), false) := by unfold drawD; simp
  have e1 : ∀ m, ixG (drawD c m) (.int 0) = some (.nd .lst (c.map .int), false) := fun m => by unfold drawD; simp
  have en : neG (.nd .lst (c.map .int)) (.nd .lst []) = some (.bl (decide (c.map D.int ≠ [])), false) := neG_nil (k := 1) (Dt.lst fun d hd => by obtain ⟨i, _, rfl⟩ := List.mem_map.mp hd; exact Dt.int i) (by decide)
  have ex : (if (c.length : Int) > 1 then (c.length : Int) else 1) = ((max 1 c.length : Nat) : Int) := by
    split <;> omega
  have ed := fdivG_int n ((max 1 c.length : Nat) : Int) (by omega)
  have eo := modG_int n ((max 1 c.length : Nat) : Int) (by omega)
  have em := modG_int ((n : Int) / ((max 1 c.length : Nat) : Int)) 127 (by decide)
  have ek : mixV (cellOf c n) (((n / max 1 c.length % 127 : Nat) : Int)) = mixV (cellOf c n) ((n : Int) / ((max 1 c.length : Nat) : Int) % 127) := by
    rw [Int.natCast_emod, Int.natCast_ediv]
    norm_cast
  have emx := mixed_ev (cellOf c n) ((n : Int) / ((max 1 c.length : Nat) : Int) % 127) (drawD c (n + 1) :: r) (Int.emod_nonneg _ (by decide)) (by have := Int.emod_lt_of_pos ((n : Int) / ((max 1 c.length : Nat) : Int)) (b := 127) (by decide); omega)
  have e7 := fdivG_int (mixV (cellOf c n) ((n : Int) / ((max 1 c.length : Nat) : Int) % 127)) 7 (by decide)
  have e8 := modG_int (mixV (cellOf c n) ((n : Int) / ((max 1 c.length : Nat) : Int) % 127) / 7) k hk
  unfold nx
  rw [ek]
  generalize hM : mixV (cellOf c n) ((n : Int) / ((max 1 c.length : Nat) : Int) % 127) = M at *
  generalize hT : ((n : Int) / ((max 1 c.length : Nat) : Int) % 127) = T at *
  by_cases hz : c = []
  · have hcell : cellOf c n = 0 := by
      rw [hz]
      unfold cellOf
      simp
    have hz' : c.map D.int = [] := by rw [hz]; rfl
    have en2 : neG (.nd .lst (c.map .int)) (.nd .lst []) = some (.bl false, false) := by rw [en, hz']; rfl
    rw [hcell] at emx
    generalize ((max 1 c.length : Nat) : Int) = many at *
    clear hz hz' en hM ek
    simp [B__law_next, List.replicate, e0, es, e1, en2, ex, ed, em, hT, emx, e7, e8]
  · have e2 : ixG (.nd .lst (c.map .int)) (.int ((n : Int) % ((max 1 c.length : Nat) : Int))) = some (.int (cellOf c n), false) := by
      have hl : c.length ≠ 0 := fun z => hz (List.length_eq_zero_iff.mp z)
      have hlt : n % max 1 c.length < c.length := by
        rw [Nat.max_eq_right (by omega)]
        exact Nat.mod_lt _ (by omega)
      refine ixG_lst _ _ _ ?_
      refine atI_nat (c.map D.int) (n % max 1 c.length) (.int (cellOf c n)) ?_
      rw [List.getElem?_map]
      unfold cellOf
      rw [List.getD_eq_getElem?_getD, List.getElem?_eq_getElem hlt]
      rfl
    have hz' : ¬ (c.map D.int = []) := by simpa using hz
    generalize ((max 1 c.length : Nat) : Int) = many at *
    simp [B__law_next, List.replicate, e0, es, e1, en, hz, ex, e2, ed, eo, em, hT, emx, e7, e8]
theorem pick_ev (c : List Int) (n : Nat) (k : Kd) (hk : k = .lst ∨ k = .tup) (a : D) (ds r : List D) (hc : c.length < 1000) (hd : ds ≠ []) : F__law_pick [.ref 0, .nd k ds] (drawD c n :: r) = .ok (pk c n a ds) false (drawD c (n + 1) :: r) := by
  rw [E__law_pick]
  have hp : 0 < (ds.length : Int) := by
    have : ds.length ≠ 0 := fun z => hd (List.length_eq_zero_iff.mp z)
    omega
  have e1 := next_ev c n ds.length r hc hp
  have e2 := pk_at (c := c) (n := n) (a := a) hd
  rcases hk with rfl | rfl
  · simp [B__law_pick, e1, ixG_lst _ _ _ e2]
  · simp [B__law_pick, e1, ixG_tup _ _ _ e2]
theorem pick_ref (c : List Int) (n m : Nat) (a : D) (ds r : List D) (hc : c.length < 1000) (hd : ds ≠ []) (hr : r[m]? = some (.nd .lst ds)) : F__law_pick [.ref 0, .ref (m + 1)] (drawD c n :: r) = .ok (pk c n a ds) false (drawD c (n + 1) :: r) := by
  rw [E__law_pick]
  have hp : 0 < (ds.length : Int) := by
    have : ds.length ≠ 0 := fun z => hd (List.length_eq_zero_iff.mp z)
    omega
  have e1 := next_ev c n ds.length r hc hp
  have e2 := pk_at (c := c) (n := n) (a := a) hd
  simp [B__law_pick, hr, e1, ixG_lst _ _ _ e2]
end TD.K75

end
section
set_option maxRecDepth 100000
set_option maxHeartbeats 4000000
/-! G2: names that are drawn. -/
namespace TD.K75
open PySem PySem.NumText PyProof.Rows
/-- what is fresh among some -/
theorem names_lc1 (c : List Int) (hc : c.length < 1000) (x1 x2 x4 x5 x6 x7 x9 : Sl) (m : Nat) (n : Nat) (r : List D) (hm : m ≤ 1000) :
    ∃ cs : List Nat, cs.length = m ∧ (∀ k ∈ cs, k ∈ SG) ∧ lcL .non .non [8] ⟨[.fz (.ref 0), x1, x2, .fz (.str ("abcdefghijklmnopqrstuvwxyz0123456789" : String)), x4, x5, x6, x7, .un, x9], drawD c n :: r⟩ (gtName 8) (eC true) L__law_names_1 ((List.range m).map fun (i : Nat) => D.int (i : Int)) [] ⟨[.fz (.ref 0), x1, x2, .fz (.str ("abcdefghijklmnopqrstuvwxyz0123456789" : String)), x4, x5, x6, x7, .un, x9], drawD c n :: r⟩ =
      .ok (.nd .lst (cs.map fun k => .str ⟨#[k]⟩), true) ⟨[.fz (.ref 0), x1, x2, .fz (.str ("abcdefghijklmnopqrstuvwxyz0123456789" : String)), x4, x5, x6, x7, .un, x9], drawD c (n + m) :: r⟩ := by
  refine lcL_inv (I := fun ds acc s => ∃ cs : List Nat, cs.length + ds.length = m ∧ (∀ k ∈ cs, k ∈ SG) ∧ acc = cs.map (fun k => D.str ⟨#[k]⟩) ∧ s = ⟨[.fz (.ref 0), x1, x2, .fz (.str ("abcdefghijklmnopqrstuvwxyz0123456789" : String)), x4, x5, x6, x7, .un, x9], drawD c (n + cs.length) :: r⟩)
    (R := fun o => ∃ cs : List Nat, cs.length = m ∧ (∀ k ∈ cs, k ∈ SG) ∧ o = .ok (.nd .lst (cs.map fun k => .str ⟨#[k]⟩), true) ⟨[.fz (.ref 0), x1, x2, .fz (.str ("abcdefghijklmnopqrstuvwxyz0123456789" : String)), x4, x5, x6, x7, .un, x9], drawD c (n + m) :: r⟩) _ _ _ ⟨[], by simp, by simp, rfl, rfl⟩ (by rw [sizeLine_eq]; simp; omega) ?_ ?_
  · rintro d ds acc s ⟨cs, h1, h2, rfl, rfl⟩
    have e1 := next_ev c (n + cs.length) 36 r hc (by decide)
    have a := nx_ge (c := c) (n := n + cs.length) (k := 36) (by decide)
    have b := nx_lt (c := c) (n := n + cs.length) (k := 36) (by decide)
    generalize nx c (n + cs.length) 36 = i at *
    obtain ⟨j, rfl⟩ := Int.eq_ofNat_of_zero_le a
    have hj : j < SG.length := by
      have : SG.length = 36 := by decide +kernel
      omega
    have e2 : ixG (.str ("abcdefghijklmnopqrstuvwxyz0123456789" : String)) (.int (j : Int)) = some (.str ⟨#[SG[j]]⟩, false) := by
      unfold ixG
      dsimp only
      rw [if_pos (by decide +kernel), show L2.atI (sg ("abcdefghijklmnopqrstuvwxyz0123456789" : String)) (j : Int) = some SG[j] from atI_nat SG j _ (List.getElem?_eq_getElem hj)]
    refine ⟨_, by simp; rfl, .inl ⟨_, .str ⟨#[SG[j]]⟩, _, rfl, by simp [A__law_names_1, e1, e2]; rfl, rfl, cs ++ [SG[j]], ?_, ?_, ?_, ?_⟩⟩
    · simp at h1 ⊢
      omega
    · intro k hk
      rcases List.mem_append.mp hk with hk | hk
      · exact h2 k hk
      · rw [List.mem_singleton.mp hk]
        exact List.getElem_mem _
    · simp
    · simp
      congr 1
  · rintro acc s ⟨cs, h1, h2, rfl, rfl⟩
    refine ⟨cs, by simpa using h1, h2, ?_⟩
    simp at h1 ⊢
    rw [h1]
theorem names_lc2 (x0 x1 x2 x3 x4 x5 x6 x7 x9 : Sl) (h : List D) :
    lcL .non .non [8] ⟨[x0, x1, x2, x3, x4, x5, x6, x7, .un, x9], h⟩ (gtName 8) (eC true) L__law_names_2 ((List.range 99).map fun (i : Nat) => D.int (i : Int)) [] ⟨[x0, x1, x2, x3, x4, x5, x6, x7, .un, x9], h⟩ =
      .ok (.nd .lst (qs.map .str), true) ⟨[x0, x1, x2, x3, x4, x5, x6, x7, .un, x9], h⟩ := by
  rw [lcL_mapT (fun i : Nat => D.int (i : Int)) (fun i : Nat => .str (Str.ofString "q" ++ numS (i : Int)))]
  · simp only [List.nil_append, qs, List.map_map]
    rfl
  · intro i hi
    have hi := List.mem_range.mp hi
    have e1 := strG_num (i : Int) (by omega)
    have e2 : (Str.ofString "q").length + (numS (i : Int)).length ≤ sizeLine := by
      have := numS_len (i := (i : Int)) (by omega) (by omega)
      have e : (Str.ofString "q").length = 1 := by decide +kernel
      rw [sizeLine_eq]
      omega
    simp [A__law_names_2, e1, e2]
  · rw [sizeLine_eq]
    simp
theorem names_lc3 (x0 x1 x2 x3 x5 x6 x8 : Sl) (found fresh : List Str) (h : List D) (hl : fresh.length ≤ 1000) :
    lcL (.sl 7 false) (.nd .lst (fresh.map .str)) [9] ⟨[x0, x1, x2, x3, .own false (.nd .lst (found.map .str)), x5, x6, .own false (.nd .lst (fresh.map .str)), x8, .un], h⟩ (gtName 9) L__law_names_3 L__law_names_4 (fresh.map .str) [] ⟨[x0, x1, x2, x3, .own false (.nd .lst (found.map .str)), x5, x6, .own true (.nd .lst (fresh.map .str)), x8, .un], h⟩ =
      .ok (.nd .lst ((fresh.filter fun x => decide (x ∉ found)).map .str), true) ⟨[x0, x1, x2, x3, .own false (.nd .lst (found.map .str)), x5, x6, .own false (.nd .lst (fresh.map .str)), x8, .un], h⟩ := by
  rw [lcL_filT D.str D.str (fun x => decide (x ∉ found))]
  · simp
  · intro x hx
    have e := inG_strs true x found .lst (.inl rfl)
    by_cases hm : x ∈ found
    · refine ⟨_, _, by simp; rfl, by simp [A__law_names_3, e, hm]; rfl, .inl ?_⟩
      simp [hm]
    · refine ⟨_, _, by simp; rfl, by simp [A__law_names_3, e, hm]; rfl, .inr ?_⟩
      simp [hm, A__law_names_4]
  · rw [sizeLine_eq]
    simp
    omega
/-- names that are drawn: as many as wanted, unlike, each a name -/
theorem names_ex (c : List Int) (hc : c.length < 1000) (n : Nat) (r : List D) (many : Nat) (hm : many ≤ 90) :
    ∃ (xs : List Str) (n' : Nat), F__law_names [.ref 0, .int (many : Int)] (drawD c n :: r) = .ok (.nd .lst (xs.map .str)) true (drawD c n' :: r) ∧ xs.length = many ∧ (∀ x ∈ xs, nmB x = true) ∧ xs.Nodup := by
  rw [E__law_names]
  have key : ∃ (xs : List Str) (n' : Nat) (x5 x6 x7 : Sl), sWhile L__law_names_5 L__law_names_6 ⟨[.fz (.ref 0), .fz (.int (many : Int)), .own false (.nd .lst (ownN.map .str)), .fz (.str ("abcdefghijklmnopqrstuvwxyz0123456789" : String)), .own false (.nd .lst []), .un, .un, .un, .un, .un], drawD c n :: r⟩ =
      .nx ⟨[.fz (.ref 0), .fz (.int (many : Int)), .own false (.nd .lst (ownN.map .str)), .fz (.str ("abcdefghijklmnopqrstuvwxyz0123456789" : String)), .own false (.nd .lst (xs.map .str)), x5, x6, x7, .un, .un], drawD c n' :: r⟩ ∧ xs.length = many ∧ (∀ x ∈ xs, nmB x = true) ∧ xs.Nodup := by
    refine sWhile_inv (I := fun m s => ∃ (xs : List Str) (n' : Nat) (x5 x6 x7 : Sl), m + xs.length = many ∧ s = ⟨[.fz (.ref 0), .fz (.int (many : Int)), .own false (.nd .lst (ownN.map .str)), .fz (.str ("abcdefghijklmnopqrstuvwxyz0123456789" : String)), .own false (.nd .lst (xs.map .str)), x5, x6, x7, .un, .un], drawD c n' :: r⟩ ∧ x5.nl = true ∧ x6.nl = true ∧ x7.nl = true ∧ (∀ x ∈ xs, nmB x = true) ∧ xs.Nodup)
      (R := fun o => ∃ (xs : List Str) (n' : Nat) (x5 x6 x7 : Sl), o = .nx ⟨[.fz (.ref 0), .fz (.int (many : Int)), .own false (.nd .lst (ownN.map .str)), .fz (.str ("abcdefghijklmnopqrstuvwxyz0123456789" : String)), .own false (.nd .lst (xs.map .str)), x5, x6, x7, .un, .un], drawD c n' :: r⟩ ∧ xs.length = many ∧ (∀ x ∈ xs, nmB x = true) ∧ xs.Nodup) many _ ⟨[], n, .un, .un, .un, by simp, rfl, rfl, rfl, rfl, by simp, by simp⟩ (by omega) ?_
    rintro m s ⟨xs, n', x5, x6, x7, hml, rfl, h5, h6, h7, hx, hd⟩
    by_cases hlt : xs.length < many
    · right
      have hlt' : (xs.length : Int) < (many : Int) := by omega
      refine ⟨_, by simp [A__law_names_5, hlt']; rfl, .inl ?_⟩
      -- the drawn name
      have e1 := next_ev c n' 4 r hc (by decide)
      have hq99 : qs.length = 99 := by decide +kernel
      have fin : ∀ (name : Str), nmB name = true → ∃ y : Str, y ∉ xs ∧ nmB y = true ∧ ∃ zs, ((name :: qs).filter fun x => decide (x ∉ xs)) = y :: zs := by
        intro name hn
        obtain ⟨q, hq1, hq2⟩ := fresh_ex xs qs qs_nodup (by omega)
        have hne : ((name :: qs).filter fun x => decide (x ∉ xs)) ≠ [] := by
          intro z
          have : q ∈ ((name :: qs).filter fun x => decide (x ∉ xs)) := List.mem_filter.mpr ⟨List.mem_cons_of_mem _ hq1, by simp [hq2]⟩
          rw [z] at this
          cases this
        cases ef : ((name :: qs).filter fun x => decide (x ∉ xs)) with
        | nil => exact absurd ef hne
        | cons y zs =>
          have hy : y ∈ ((name :: qs).filter fun x => decide (x ∉ xs)) := by rw [ef]; exact List.mem_cons_self ..
          obtain ⟨a, b⟩ := List.mem_filter.mp hy
          refine ⟨y, by simpa using b, ?_, zs, rfl⟩
          rcases List.mem_cons.mp a with rfl | a
          · exact hn
          · exact qs_nm y a
      have hz1 : 1 + qs.length ≤ sizeLine := by rw [sizeLine_eq, hq99]; decide
      have hz2 : xs.length < sizeLine := by rw [sizeLine_eq]; omega
      have done : ∀ (y : Str) (n2 : Nat) (y5 y6 y7 : Sl), y ∉ xs → nmB y = true → y5.nl = true → y6.nl = true → y7.nl = true → ∃ (xs' : List Str) (n3 : Nat) (z5 z6 z7 : Sl), m - 1 + xs'.length = many ∧ (⟨[.fz (.ref 0), .fz (.int (many : Int)), .own false (.nd .lst (ownN.map .str)), .fz (.str ("abcdefghijklmnopqrstuvwxyz0123456789" : String)), .own false (.nd .lst (xs.map .str ++ [.str y])), y5, y6, y7, .un, .un], drawD c n2 :: r⟩ : S) = ⟨[.fz (.ref 0), .fz (.int (many : Int)), .own false (.nd .lst (ownN.map .str)), .fz (.str ("abcdefghijklmnopqrstuvwxyz0123456789" : String)), .own false (.nd .lst (xs'.map .str)), z5, z6, z7, .un, .un], drawD c n3 :: r⟩ ∧ z5.nl = true ∧ z6.nl = true ∧ z7.nl = true ∧ (∀ x ∈ xs', nmB x = true) ∧ xs'.Nodup := by
        intro y n2 y5 y6 y7 h1 h2 a1 a2 a3
        refine ⟨xs ++ [y], n2, y5, y6, y7, by simp; omega, by simp, a1, a2, a3, ?_, ?_⟩
        · intro x hx'
          rcases List.mem_append.mp hx' with h | h
          · exact hx x h
          · rw [List.mem_singleton.mp h]
            exact h2
        · rw [List.nodup_append]
          refine ⟨hd, by simp, ?_⟩
          intro a ha b hb
          rw [List.mem_singleton.mp hb]
          exact fun z => h1 (z ▸ ha)
      have v0 := nx_ge (c := c) (n := n') (k := 4) (by decide)
      have hsl : (Str.ofString "r").length + (numS (xs.length : Int)).length ≤ sizeLine := by
        have := numS_len (i := (xs.length : Int)) (by omega) (by omega)
        have e : (Str.ofString "r").length = 1 := by decide +kernel
        rw [sizeLine_eq]
        omega
      have e5 := strG_num (xs.length : Int) (by omega)
      generalize nx c n' 4 = v at *
      by_cases hv0 : v = 0
      · have e2 := next_ev c (n' + 1) 15 r hc (by decide)
        have a := nx_ge (c := c) (n := n' + 1) (k := 15) (by decide)
        have b := nx_lt (c := c) (n := n' + 1) (k := 15) (by decide)
        generalize nx c (n' + 1) 15 = i at *
        obtain ⟨j, rfl⟩ := Int.eq_ofNat_of_zero_le a
        have hj : j < ownN.length := by
          have : ownN.length = 15 := by decide +kernel
          omega
        have e3 : ixG (.nd .lst (ownN.map .str)) (.int (j : Int)) = some (.str ownN[j], false) := ixG_lst _ _ _ (atI_nat _ j _ (by rw [List.getElem?_map, List.getElem?_eq_getElem hj]; rfl))
        obtain ⟨y, h1, h2, zs, ef⟩ := fin ownN[j] (own_nm _ (List.getElem_mem _))
        have e4 := names_lc3 (.fz (.ref 0)) (.fz (.int (many : Int))) (.own false (.nd .lst (ownN.map .str))) (.fz (.str ("abcdefghijklmnopqrstuvwxyz0123456789" : String))) (.fz (.int v)) (.fz (.str ownN[j])) .un xs (ownN[j] :: qs) (drawD c (n' + 1 + 1) :: r) (by simp [hq99])
        rw [ef] at e4
        simp only [List.map_cons] at e4
        rw [hv0] at e4
        refine ⟨_, m - 1, .inl (by simp [A__law_names_6, h5, h6, h7, e1, hv0, e2, e3, names_lc2, hz1, e4, hz2]; rfl), by omega, ?_⟩
        exact done y _ _ _ _ h1 h2 rfl rfl rfl
      · by_cases hv1 : v = 1
        · have e2 := next_ev c (n' + 1) 8 r hc (by decide)
          have a := nx_ge (c := c) (n := n' + 1) (k := 8) (by decide)
          have b := nx_lt (c := c) (n := n' + 1) (k := 8) (by decide)
          generalize nx c (n' + 1) 8 = i at *
          obtain ⟨j, rfl⟩ := Int.eq_ofNat_of_zero_le a
          have ht : (1 + (j : Int)).toNat = j + 1 := by omega
          have hg1 : -1000 ≤ 1 + (j : Int) := by omega
          have hg2 : 1 + (j : Int) ≤ 1000000000 := by omega
          obtain ⟨cs, g1, g2, g3⟩ := names_lc1 c hc (.fz (.int (many : Int))) (.own false (.nd .lst (ownN.map .str))) (.own false (.nd .lst (xs.map .str))) (.fz (.int v)) (.fz (.str (Str.ofString "r" ++ numS (xs.length : Int)))) x7 .un (j + 1) (n' + 1 + 1) r (by omega)
          have hnm := ones_nm (cs := cs) (by omega) (by omega) g2
          have ej : joinG (.str (Str.ofString "")) [.nd .lst (cs.map fun k => D.str ⟨#[k]⟩)] = some (.str (Str.join Str.empty (cs.map fun k => (⟨#[k]⟩ : Str))), false) := by
            have := joinG_lst Str.empty (cs.map fun k => (⟨#[k]⟩ : Str)) (by
              have h1 : ((cs.map fun k => (⟨#[k]⟩ : Str)).map (·.length)).sum ≤ (cs.map fun k => (⟨#[k]⟩ : Str)).length * 1 := sum_le fun x hx => by
                obtain ⟨k, _, rfl⟩ := List.mem_map.mp hx
                exact Nat.le_refl _
              have e : Str.empty.length = 0 := rfl
              rw [e]
              rw [List.length_map] at h1
              omega)
            rw [List.map_map] at this
            rw [lit_e]
            exact this
          generalize Str.join Str.empty (cs.map fun k => (⟨#[k]⟩ : Str)) = nmw at *
          obtain ⟨y, h1, h2, zs, ef⟩ := fin nmw hnm
          have e4 := names_lc3 (.fz (.ref 0)) (.fz (.int (many : Int))) (.own false (.nd .lst (ownN.map .str))) (.fz (.str ("abcdefghijklmnopqrstuvwxyz0123456789" : String))) (.fz (.int v)) (.fz (.str nmw)) .un xs (nmw :: qs) (drawD c (n' + 1 + 1 + (j + 1)) :: r) (by simp [hq99])
          rw [ef] at e4
          simp only [List.map_cons] at e4
          rw [hv1] at e4 g3
          refine ⟨_, m - 1, .inl (by simp [A__law_names_6, h5, h6, h7, e1, hv1, e5, hsl, e2, ht, hg1, hg2, g3, ej, names_lc2, hz1, e4, hz2]; rfl), by omega, ?_⟩
          exact done y _ _ _ _ h1 h2 rfl rfl rfl
        · obtain ⟨y, h1, h2, zs, ef⟩ := fin (Str.ofString "r" ++ numS (xs.length : Int)) (r_nm _ (by omega))
          have e4 := names_lc3 (.fz (.ref 0)) (.fz (.int (many : Int))) (.own false (.nd .lst (ownN.map .str))) (.fz (.str ("abcdefghijklmnopqrstuvwxyz0123456789" : String))) (.fz (.int v)) (.fz (.str (Str.ofString "r" ++ numS (xs.length : Int)))) .un xs ((Str.ofString "r" ++ numS (xs.length : Int)) :: qs) (drawD c (n' + 1) :: r) (by simp [hq99])
          rw [ef] at e4
          simp only [List.map_cons] at e4
          refine ⟨_, m - 1, .inl (by simp [A__law_names_6, h5, h6, h7, e1, hv0, hv1, e5, hsl, names_lc2, hz1, e4, hz2]; rfl), by omega, ?_⟩
          exact done y _ _ _ _ h1 h2 rfl rfl rfl
    · left
      have hlt' : ¬ (xs.length : Int) < (many : Int) := by omega
      exact ⟨_, by simp [A__law_names_5, hlt'], xs, n', x5, x6, x7, rfl, by omega, hx, hd⟩
  obtain ⟨xs, n', x5, x6, x7, e, h1, h2, h3⟩ := key
  refine ⟨xs, n', ?_, h1, h2, h3⟩
  simp [B__law_names, List.replicate]
  simp only [ownN, List.map] at e
  rw [e]
  simp
end TD.K75

end
section
set_option maxRecDepth 100000
set_option maxHeartbeats 4000000
/-! W1: edits that are drawn. -/
namespace TD.K75
open PySem PySem.NumText PyProof.Rows
theorem pick_str (c : List Int) (hc : c.length < 1000) (n : Nat) (r : List D) (xs : List Str) (hx : xs ≠ []) : ∃ x ∈ xs, F__law_pick [.ref 0, .nd .lst (xs.map .str)] (drawD c n :: r) = .ok (.str x) false (drawD c (n + 1) :: r) := by
  refine ⟨pk c n Str.empty xs, pk_mem hx, ?_⟩
  rw [pick_ev c n .lst (.inl rfl) (.str Str.empty) (xs.map .str) r hc (by simpa using hx), pk_map]
theorem pick_ed (c : List Int) (hc : c.length < 1000) (n m : Nat) (r : List D) (es : List Ed) (hx : es ≠ []) (hr : r[m]? = some (.nd .lst (es.map Ed.d))) : ∃ e ∈ es, F__law_pick [.ref 0, .ref (m + 1)] (drawD c n :: r) = .ok e.d false (drawD c (n + 1) :: r) := by
  refine ⟨pk c n ⟨0, Str.empty, .drop Str.empty⟩ es, pk_mem hx, ?_⟩
  rw [pick_ref c n m (Ed.d ⟨0, Str.empty, .drop Str.empty⟩) (es.map Ed.d) r hc (by simpa using hx) hr, pk_map]
theorem next_in (c : List Int) (hc : c.length < 1000) (n : Nat) (k : Int) (hk : 0 < k) (r : List D) : ∃ v : Int, 0 ≤ v ∧ v < k ∧ F__law_next [.ref 0, .int k] (drawD c n :: r) = .ok (.int v) false (drawD c (n + 1) :: r) :=
  ⟨nx c n k, nx_ge hk, nx_lt hk, next_ev c n k r hc hk⟩
def PL : List Int := [0, 9, 10, 25, 999, 11]
theorem places_ev (h : List D) : F__law_places [] h = .ok (.nd .lst (PL.map .int)) true h := by
  rw [E__law_places]
  simp [B__law_places, PL]
theorem PL_ix (i : Int) (h0 : 0 ≤ i) (h1 : i < 6) : ∃ p : Int, 0 ≤ p ∧ p ≤ 999 ∧ PL[i.toNat]? = some p ∧ ixG (.nd .lst (PL.map .int)) (.int i) = some (.int p, false) := by
  obtain ⟨j, rfl⟩ := Int.eq_ofNat_of_zero_le h0
  have hj : j < PL.length := by
    have : PL.length = 6 := rfl
    omega
  have k : ∀ p ∈ PL, 0 ≤ p ∧ p ≤ 999 := by decide
  have km := k _ (List.getElem_mem hj)
  refine ⟨PL[j], km.1, km.2, ?_, ixG_lst _ _ _ (atI_nat _ j _ (by rw [List.getElem?_map, List.getElem?_eq_getElem hj]; rfl))⟩
  show PL[j]? = _
  exact List.getElem?_eq_getElem hj
theorem PL_ne : ∀ i : Nat, i < 6 → ∀ j : Nat, j < 6 → i ≠ j → PL[i]? ≠ PL[j]? := by decide
/-- what an edit tells: some valid one -/
theorem what_ex (c : List Int) (hc : c.length < 1000) (n m : Nat) (r : List D) (xs : List Str) (es : List Ed) (hx : xs ≠ []) (hn : ∀ x ∈ xs, nmB x = true) (hr : r[m]? = some (.nd .lst (es.map Ed.d))) (he : ∀ e ∈ es, e.okB = true) :
    ∃ (w : Wt) (n' : Nat), F__law_what [.ref 0, .nd .lst (xs.map .str), .ref (m + 1)] (drawD c n :: r) = .ok (.nd .tup w.ds) false (drawD c n' :: r) ∧ w.okB = true := by
  rw [E__law_what]
  obtain ⟨v, v0, v1, e1⟩ := next_in c hc n 10 (by decide) r
  have en := neG_nil (eds_dt he) (by decide)
  have eq := eqG_nil (eds_dt he) (by decide)
  by_cases h4 : v < 4
  · obtain ⟨i, i0, i1, e2⟩ := next_in c hc (n + 1) 6 (by decide) r
    obtain ⟨j, j0, j1, e3⟩ := next_in c hc (n + 1 + 1) 5 (by decide) r
    obtain ⟨x, hx1, e4⟩ := pick_str c hc (n + 1 + 1 + 1) r xs hx
    obtain ⟨k, k0, k1, e5⟩ := next_in c hc (n + 1 + 1 + 1 + 1) 3 (by decide) r
    have em := modG_int (i + 1 + j) 6 (by decide)
    have t0 := Int.emod_nonneg (i + 1 + j) (b := 6) (by decide)
    have t1 := Int.emod_lt_of_pos (i + 1 + j) (b := 6) (by decide)
    have tn : (i + 1 + j) % 6 ≠ i := by omega
    generalize (i + 1 + j) % 6 = t at *
    obtain ⟨p, p0, p1, p2, p3⟩ := PL_ix i i0 i1
    obtain ⟨q, q0, q1, q2, q3⟩ := PL_ix t t0 t1
    have hpq : p ≠ q := fun z => PL_ne i.toNat (by omega) t.toNat (by omega) (by omega) (by rw [p2, q2, z])
    refine ⟨.road x p q (1 + k), n + 1 + 1 + 1 + 1 + 1, ?_, ?_⟩
    · simp [B__law_what, List.replicate, e1, h4, e2, e3, em, e4, places_ev, p3, q3, e5, Wt.ds]
    · simp only [Wt.okB, rdB, plB, wiB, Bool.and_eq_true, decide_eq_true_eq, Bool.not_eq_true', decide_eq_false_iff_not]
      exact ⟨hn x hx1, ⟨⟨p0, p1⟩, ⟨q0, q1⟩, hpq, by omega, by omega⟩, by omega⟩
  · by_cases h5 : v = 4
    · subst h5
      obtain ⟨x, hx1, e4⟩ := pick_str c hc (n + 1) r xs hx
      exact ⟨.drop x, _, by simp [B__law_what, List.replicate, e1, e4, Wt.ds]; rfl, hn x hx1⟩
    · obtain ⟨x, hx1, e4⟩ := pick_str c hc (n + 1) r xs hx
      obtain ⟨y, hy1, e5⟩ := pick_str c hc (n + 1 + 1) r xs hx
      by_cases h7 : v < 7
      · have hv : v = 5 ∨ v = 6 := by omega
        rcases hv with rfl | rfl
        · exact ⟨.ban x y, _, by simp [B__law_what, List.replicate, e1, e4, e5, Wt.ds]; rfl, by simp [Wt.okB, hn x hx1, hn y hy1]⟩
        · exact ⟨.free x y, _, by simp [B__law_what, List.replicate, e1, e4, e5, Wt.ds]; rfl, by simp [Wt.okB, hn x hx1, hn y hy1]⟩
      · by_cases hz : es = []
        · subst hz
          obtain ⟨k, k0, k1, e6⟩ := next_in c hc (n + 1) 4 (by decide) r
          have ha : nmB (Str.ofString "a") = true := by decide +kernel
          simp at hr en eq
          refine ⟨.undo k (Str.ofString "a"), n + 1 + 1, ?_, ?_⟩
          · by_cases h8 : v = 7 <;> simp [B__law_what, List.replicate, e1, h4, h5, h7, h8, hr, en, eq, e6, Wt.ds]
          · simp only [Wt.okB, ha, stB, wiB, Bool.and_eq_true, decide_eq_true_eq]
            exact ⟨⟨k0, by omega⟩, trivial⟩
        · have hz' : ¬ es.map Ed.d = [] := by simpa using hz
          by_cases h8 : v = 7
          · subst h8
            exact ⟨.ban x y, _, by simp [B__law_what, List.replicate, e1, e4, e5, hr, en, hz, Wt.ds]; rfl, by simp [Wt.okB, hn x hx1, hn y hy1]⟩
          · obtain ⟨e, he1, e6⟩ := pick_ed c hc (n + 1) m r es hz hr
            have hok := he e he1
            simp only [Ed.okB, Bool.and_eq_true] at hok
            refine ⟨.undo e.st e.hand, n + 1 + 1, ?_, ?_⟩
            · simp [B__law_what, List.replicate, e1, h4, h5, h7, h8, hr, en, eq, hz, e6, Wt.ds, Ed.d]
            · simp [Wt.okB, hok.1, hok.2.1]
/-- the word of what an edit tells -/
def wordOf (w : Wt) : Str := match w with
  | .road .. => "road" | .drop .. => "drop" | .ban .. => "ban" | .free .. => "free" | .undo .. => "undo"
theorem word_ix (w : Wt) : ixG (.nd .tup w.ds) (.int 0) = some (.str (wordOf w), false) := by
  cases w <;> simp [Wt.ds, wordOf]
theorem word_undo {w : Wt} (h : wordOf w = Str.ofString "undo") (hw : w.okB = true) : ∃ i n, w = .undo i n ∧ 0 ≤ i ∧ i ≤ 1000000 := by
  cases w with
  | undo i n =>
    simp only [Wt.okB, Bool.and_eq_true, stB, wiB_iff] at hw
    exact ⟨i, n, rfl, hw.1⟩
  | road => exact absurd (show Str.ofString "road" = Str.ofString "undo" from h) (by decide +kernel)
  | drop => exact absurd (show Str.ofString "drop" = Str.ofString "undo" from h) (by decide +kernel)
  | ban => exact absurd (show Str.ofString "ban" = Str.ofString "undo" from h) (by decide +kernel)
  | free => exact absurd (show Str.ofString "free" = Str.ofString "undo" from h) (by decide +kernel)
theorem edits_ex (c : List Int) (hc : c.length < 1000) (n : Nat) (r : List D) (many : Nat) (hm : many ≤ 100) :
    ∃ (es : List Ed) (n' : Nat), F__law_edits [.ref 0, .int (many : Int)] (drawD c n :: r) = .ok (.ref (r.length + 1)) false (drawD c n' :: (r ++ [.nd .lst (es.map Ed.d)])) ∧ (∀ e ∈ es, e.okB = true) ∧ es.length ≤ 2 * many := by
  rw [E__law_edits]
  obtain ⟨xs, n1, e1, xl, xn, _⟩ := names_ex c hc n r 5 (by decide)
  obtain ⟨ys, n2, e2, yl, yn, _⟩ := names_ex c hc n1 r 3 (by decide)
  have hx : xs ≠ [] := fun z => by rw [z] at xl; cases xl
  have hy : ys ≠ [] := fun z => by rw [z] at yl; cases yl
  have e10 : powG (.int 10) (.int 6) = some (.int 1000000, false) := by rw [powG_int 10 6 (by decide), show (10 : Int) ^ (6 : Int).toNat = 1000000 from by decide]
  have key : ∃ (es : List Ed) (n' : Nat) (a2 a3 a5 a6 a7 : Sl), forL .non .non (gtName 5) L__law_edits_1 ((List.range many).map fun (i : Nat) => D.int (i : Int)) ⟨[.fz (.ref 0), .fz (.int (many : Int)), .own false (.nd .lst (xs.map .str)), .own false (.nd .lst (ys.map .str)), .fz (.ref (r.length + 1)), .un, .un, .un], drawD c n2 :: (r ++ [.nd .lst []])⟩ =
      .nx ⟨[.fz (.ref 0), .fz (.int (many : Int)), a2, a3, .fz (.ref (r.length + 1)), a5, a6, a7], drawD c n' :: (r ++ [.nd .lst (es.map Ed.d)])⟩ ∧ (∀ e ∈ es, e.okB = true) ∧ es.length ≤ 2 * many := by
    refine forL_inv (I := fun ds s => ∃ (es : List Ed) (n' : Nat) (a2 a3 a5 a6 a7 : Sl), s = ⟨[.fz (.ref 0), .fz (.int (many : Int)), a2, a3, .fz (.ref (r.length + 1)), a5, a6, a7], drawD c n' :: (r ++ [.nd .lst (es.map Ed.d)])⟩ ∧ a2.val = some (.nd .lst (xs.map .str)) ∧ a3.val = some (.nd .lst (ys.map .str)) ∧ a5.nl = true ∧ a6.nl = true ∧ a7.nl = true ∧ (∀ e ∈ es, e.okB = true) ∧ es.length + 2 * ds.length ≤ 2 * many)
      (R := fun o => ∃ (es : List Ed) (n' : Nat) (a2 a3 a5 a6 a7 : Sl), o = .nx ⟨[.fz (.ref 0), .fz (.int (many : Int)), a2, a3, .fz (.ref (r.length + 1)), a5, a6, a7], drawD c n' :: (r ++ [.nd .lst (es.map Ed.d)])⟩ ∧ (∀ e ∈ es, e.okB = true) ∧ es.length ≤ 2 * many) ((List.range many).map fun (i : Nat) => D.int (i : Int)) _ ⟨([] : List Ed), n2, .own false (.nd .lst (xs.map .str)), .own false (.nd .lst (ys.map .str)), .un, .un, .un, rfl, rfl, rfl, rfl, rfl, rfl, by simp, by simp⟩ ?_ ?_
    · rintro d ds s ⟨es, n', a2, a3, a5, a6, a7, rfl, h2, h3, h5, h6, h7, he, hl⟩
      have hlen : es.length ≤ 200 := by simp at hl; omega
      obtain ⟨w, m1, f1, hw⟩ := what_ex c hc n' r.length (r ++ [.nd .lst (es.map Ed.d)]) xs es hx xn hp_last he
      obtain ⟨v1, v10, v11, f2⟩ := next_in c hc m1 6 (by decide) (r ++ [.nd .lst (es.map Ed.d)])
      obtain ⟨v2, v20, v21, f3⟩ := next_in c hc (m1 + 1) 3 (by decide) (r ++ [.nd .lst (es.map Ed.d)])
      obtain ⟨v3, v30, v31, f4⟩ := next_in c hc (m1 + 1 + 1) 3 (by decide) (r ++ [.nd .lst (es.map Ed.d)])
      obtain ⟨st, s0, s1, fs⟩ : ∃ st : Int, 0 ≤ st ∧ st ≤ 1000000 ∧ ixG (.nd .lst [.int v1, .int (1000000 - v2), .int (es.length : Int)]) (.int v3) = some (.int st, false) := by
        have : v3 = 0 ∨ v3 = 1 ∨ v3 = 2 := by omega
        rcases this with rfl | rfl | rfl
        · exact ⟨v1, by omega, by omega, by simp⟩
        · exact ⟨1000000 - v2, by omega, by omega, by simp⟩
        · exact ⟨es.length, by omega, by omega, by simp⟩
      have hsz : es.length < sizeLine := by rw [sizeLine_eq]; omega
      have hsz2 : es.length + 1 < sizeLine := by rw [sizeLine_eq]; omega
      have wx := word_ix w
      -- what is left behind the stamp
      have fin : ∀ (st' : Int) (m2 : Nat), 0 ≤ st' → st' ≤ 1000000 → ∃ (y : Str) (v : Int), nmB y = true ∧ F__law_pick [.ref 0, .nd .lst (ys.map .str)] (drawD c m2 :: (r ++ [.nd .lst (es.map Ed.d)])) = .ok (.str y) false (drawD c (m2 + 1) :: (r ++ [.nd .lst (es.map Ed.d)])) ∧
          (Ed.mk st' y w).okB = true ∧ F__law_next [.ref 0, .int 8] (drawD c (m2 + 1) :: (r ++ [.nd .lst (es.map Ed.d ++ [(Ed.mk st' y w).d])])) = .ok (.int v) false (drawD c (m2 + 1 + 1) :: (r ++ [.nd .lst (es.map Ed.d ++ [(Ed.mk st' y w).d])])) ∧
          ∃ e2 : Ed, e2.okB = true ∧ F__law_pick [.ref 0, .ref (r.length + 1)] (drawD c (m2 + 1 + 1) :: (r ++ [.nd .lst (es.map Ed.d ++ [(Ed.mk st' y w).d])])) = .ok e2.d false (drawD c (m2 + 1 + 1 + 1) :: (r ++ [.nd .lst (es.map Ed.d ++ [(Ed.mk st' y w).d])])) := by
        intro st' m2 g0 g1
        obtain ⟨y, hy1, k1⟩ := pick_str c hc m2 (r ++ [.nd .lst (es.map Ed.d)]) ys hy
        have hok : (Ed.mk st' y w).okB = true := by simp [Ed.okB, yn y hy1, hw, stB, wiB, g0, g1]
        obtain ⟨v, _, _, k2⟩ := next_in c hc (m2 + 1) 8 (by decide) (r ++ [.nd .lst (es.map Ed.d ++ [(Ed.mk st' y w).d])])
        obtain ⟨e2, he2, k3⟩ := pick_ed c hc (m2 + 1 + 1) r.length (r ++ [.nd .lst (es.map Ed.d ++ [(Ed.mk st' y w).d])]) (es ++ [Ed.mk st' y w]) (by simp) (by simp)
        refine ⟨y, v, yn y hy1, k1, hok, k2, e2, ?_, k3⟩
        rcases List.mem_append.mp he2 with h | h
        · exact he e2 h
        · rw [List.mem_singleton.mp h]
          exact hok
      have out1 : ∀ (st' : Int) (y : Str) (m2 : Nat) (d2 d3 d5 d6 d7 : D), (Ed.mk st' y w).okB = true → d2 = .nd .lst (xs.map .str) → d3 = .nd .lst (ys.map .str) →
          ∃ (es' : List Ed) (n' : Nat) (a2 a3 a5 a6 a7 : Sl), (⟨[.fz (.ref 0), .fz (.int (many : Int)), .fz d2, .fz d3, .fz (.ref (r.length + 1)), .fz d5, .fz d6, .fz d7], drawD c m2 :: (r ++ [.nd .lst (es.map Ed.d ++ [.nd .tup [.int st', .str y, .nd .tup w.ds]])])⟩ : S) = ⟨[.fz (.ref 0), .fz (.int (many : Int)), a2, a3, .fz (.ref (r.length + 1)), a5, a6, a7], drawD c n' :: (r ++ [.nd .lst (es'.map Ed.d)])⟩ ∧ a2.val = some (.nd .lst (xs.map .str)) ∧ a3.val = some (.nd .lst (ys.map .str)) ∧ a5.nl = true ∧ a6.nl = true ∧ a7.nl = true ∧ (∀ e ∈ es', e.okB = true) ∧ es'.length + 2 * ds.length ≤ 2 * many := by
        intro st' y m2 d2 d3 d5 d6 d7 hok q2 q3
        subst q2 q3
        refine ⟨es ++ [Ed.mk st' y w], m2, _, _, _, _, _, by simp [Ed.d]; exact ⟨rfl, rfl, rfl, rfl, rfl⟩, rfl, rfl, rfl, rfl, rfl, fun e hm => ?_, by simp at hl ⊢; omega⟩
        rcases List.mem_append.mp hm with h | h
        · exact he e h
        · rw [List.mem_singleton.mp h]; exact hok
      have out2 : ∀ (st' : Int) (y : Str) (e2 : Ed) (m2 : Nat) (d2 d3 d5 d6 d7 : D), (Ed.mk st' y w).okB = true → e2.okB = true → d2 = .nd .lst (xs.map .str) → d3 = .nd .lst (ys.map .str) →
          ∃ (es' : List Ed) (n' : Nat) (a2 a3 a5 a6 a7 : Sl), (⟨[.fz (.ref 0), .fz (.int (many : Int)), .fz d2, .fz d3, .fz (.ref (r.length + 1)), .fz d5, .fz d6, .fz d7], drawD c m2 :: (r ++ [.nd .lst (es.map Ed.d ++ [.nd .tup [.int st', .str y, .nd .tup w.ds], e2.d])])⟩ : S) = ⟨[.fz (.ref 0), .fz (.int (many : Int)), a2, a3, .fz (.ref (r.length + 1)), a5, a6, a7], drawD c n' :: (r ++ [.nd .lst (es'.map Ed.d)])⟩ ∧ a2.val = some (.nd .lst (xs.map .str)) ∧ a3.val = some (.nd .lst (ys.map .str)) ∧ a5.nl = true ∧ a6.nl = true ∧ a7.nl = true ∧ (∀ e ∈ es', e.okB = true) ∧ es'.length + 2 * ds.length ≤ 2 * many := by
        intro st' y e2 m2 d2 d3 d5 d6 d7 hok hok2 q2 q3
        subst q2 q3
        refine ⟨es ++ [Ed.mk st' y w, e2], m2, _, _, _, _, _, by simp [Ed.d]; exact ⟨rfl, rfl, rfl, rfl, rfl⟩, rfl, rfl, rfl, rfl, rfl, fun e hm => ?_, by simp at hl ⊢; omega⟩
        rcases List.mem_append.mp hm with h | h
        · exact he e h
        · simp at h
          rcases h with rfl | rfl
          · exact hok
          · exact hok2
      have nl2 := nl_val h2
      have nl3 := nl_val h3
      by_cases hu : wordOf w = Str.ofString "undo"
      · obtain ⟨i, nm, rfl, i0, i1⟩ := word_undo hu hw
        obtain ⟨v4, v40, v41, f5⟩ := next_in c hc (m1 + 1 + 1 + 1) 3 (by decide) (r ++ [.nd .lst (es.map Ed.d)])
        by_cases h4 : 0 < v4
        · obtain ⟨v5, v50, v51, f6⟩ := next_in c hc (m1 + 1 + 1 + 1 + 1) 3 (by decide) (r ++ [.nd .lst (es.map Ed.d)])
          obtain ⟨y, v, hyn, k1, hok, k2, e2, hok2, k3⟩ := fin (if i + v5 < 1000000 then i + v5 else 1000000) (m1 + 1 + 1 + 1 + 1 + 1) (by split <;> omega) (by split <;> omega)
          simp only [Ed.d] at k2 k3
          simp only [Wt.ds] at f1 k2 k3 wx out1 out2
          simp [wordOf] at wx
          by_cases h8 : v = 0
          · refine ⟨_, by simp [h5]; rfl, .inl ⟨_, .inl (by simp [A__law_edits_1, h2, h3, h5, h6, h7, nl2, nl3, f1, f2, e10, f3, fs, f4, h4, f5, f6, k1, hsz, k2, h8, k3, hsz2]; rfl), ?_⟩⟩
            exact out2 _ y e2 _ _ _ _ _ _ hok hok2 rfl rfl
          · refine ⟨_, by simp [h5]; rfl, .inl ⟨_, .inl (by simp [A__law_edits_1, h2, h3, h5, h6, h7, nl2, nl3, f1, f2, e10, f3, fs, f4, h4, f5, f6, k1, hsz, k2, h8]; rfl), ?_⟩⟩
            exact out1 _ y _ _ _ _ _ _ hok rfl rfl
        · obtain ⟨y, v, hyn, k1, hok, k2, e2, hok2, k3⟩ := fin st (m1 + 1 + 1 + 1 + 1) s0 s1
          simp only [Ed.d] at k2 k3
          simp only [Wt.ds] at f1 k2 k3 wx out1 out2
          by_cases h8 : v = 0
          · refine ⟨_, by simp [h5]; rfl, .inl ⟨_, .inl (by simp [A__law_edits_1, h2, h3, h5, h6, h7, nl2, nl3, f1, f2, e10, f3, fs, f4, h4, f5, k1, hsz, k2, h8, k3, hsz2]; rfl), ?_⟩⟩
            exact out2 _ y e2 _ _ _ _ _ _ hok hok2 rfl rfl
          · refine ⟨_, by simp [h5]; rfl, .inl ⟨_, .inl (by simp [A__law_edits_1, h2, h3, h5, h6, h7, nl2, nl3, f1, f2, e10, f3, fs, f4, h4, f5, k1, hsz, k2, h8]; rfl), ?_⟩⟩
            exact out1 _ y _ _ _ _ _ _ hok rfl rfl
      · obtain ⟨y, v, hyn, k1, hok, k2, e2, hok2, k3⟩ := fin st (m1 + 1 + 1 + 1) s0 s1
        simp only [Ed.d] at k2 k3
        by_cases h8 : v = 0
        · refine ⟨_, by simp [h5]; rfl, .inl ⟨_, .inl (by simp [A__law_edits_1, h2, h3, h5, h6, h7, nl2, nl3, f1, f2, e10, f3, fs, f4, wx, hu, k1, hsz, k2, h8, k3, hsz2]; rfl), ?_⟩⟩
          exact out2 _ y e2 _ _ _ _ _ _ hok hok2 rfl rfl
        · refine ⟨_, by simp [h5]; rfl, .inl ⟨_, .inl (by simp [A__law_edits_1, h2, h3, h5, h6, h7, nl2, nl3, f1, f2, e10, f3, fs, f4, wx, hu, k1, hsz, k2, h8]; rfl), ?_⟩⟩
          exact out1 _ y _ _ _ _ _ _ hok rfl rfl
    · rintro s ⟨es, n', a2, a3, a5, a6, a7, rfl, _, _, _, _, _, he, hl⟩
      exact ⟨es, n', a2, a3, a5, a6, a7, by simp, he, by simpa using hl⟩
  obtain ⟨es, n', a2, a3, a5, a6, a7, e, he, hl⟩ := key
  refine ⟨es, n', ?_, he, hl⟩
  have h0 : -1000 ≤ (many : Int) := by omega
  have h1 : (many : Int) ≤ 1000000000 := by omega
  simp at e1 e2
  simp [B__law_edits, List.replicate, e1, e2, h0, h1]
  rw [e]
  simp
end TD.K75

end
section
set_option maxRecDepth 100000
set_option maxHeartbeats 4000000
/-! V5: texts that are spoilt. -/
namespace TD.K75
open PySem PySem.NumText PyProof.Rows
@[simp] theorem intG1_bl (b : Bool) : intG1 [.bl b] = some (.int (if b = true then 1 else 0), false) := id rfl
theorem far_ev (t : Str) (h : List D) (L : Nat) (ht : Tx L t) (hL : L ≤ 100000) : ∃ b, F__law_is_far [.str t] h = .ok (.bl b) false h := by
  have h1 := ht.split (k := 10)
  have j1 := h1.joinG (k := 32) (by omega)
  have h2 := h1.join (k := 32) (by decide)
  have h3 := h2.split (k := 32)
  have e0 : splitG (.str t) [.str (Str.ofString "\n")] = some (.nd .lst ((Txt.split t ⟨#[10]⟩).map .str), true) := by
    rw [lit_nl, splitG_one t 10 (by have := ht.1; rw [sizeLine_eq]; omega)]
  have e1 : joinG (.str (Str.ofString " ")) [.nd .lst ((Txt.split t ⟨#[10]⟩).map .str)] = some (.str (Str.join ⟨#[32]⟩ (Txt.split t ⟨#[10]⟩)), false) := by
    rw [lit_sp]
    exact j1
  generalize Str.join ⟨#[32]⟩ (Txt.split t ⟨#[10]⟩) = u at *
  have e2 : splitG (.str u) [.str (Str.ofString " ")] = some (.nd .lst ((Txt.split u ⟨#[32]⟩).map .str), true) := by
    rw [lit_sp, splitG_one u 32 (by have := h2.1; rw [sizeLine_eq]; omega)]
  have e10 : powG (.int 10) (.int 12) = some (.int 1000000000000, false) := by rw [powG_int 10 12 (by decide), show (10 : Int) ^ (12 : Int).toNat = 1000000000000 from by decide]
  have e3 : lcL (.sl 1 false) (.nd .lst ((Txt.split u ⟨#[32]⟩).map .str)) [2] ⟨[.fz (.str t), .own false (.nd .lst ((Txt.split u ⟨#[32]⟩).map .str)), .un], h⟩ (gtName 2) L__law_is_far_1 L__law_is_far_2 ((Txt.split u ⟨#[32]⟩).map .str) [] ⟨[.fz (.str t), .own true (.nd .lst ((Txt.split u ⟨#[32]⟩).map .str)), .un], h⟩ = .ok (.nd .lst (((Txt.split u ⟨#[32]⟩).filter fun w => figB 13 w && decide (1000000000000 < valW w)).map .str), true) ⟨[.fz (.str t), .own false (.nd .lst ((Txt.split u ⟨#[32]⟩).map .str)), .un], h⟩ := by
    rw [lcL_filT D.str D.str (fun w => figB 13 w && decide (1000000000000 < valW w))]
    · simp
    · intro w hw
      have f1 := law_figures_ev w 13 h _ (h3.word w hw) (by omega)
      cases hf : figB 13 w with
      | false =>
        rw [hf] at f1
        exact ⟨_, _, by simp; rfl, by simp [A__law_is_far_1, f1]; rfl, .inl (by simp)⟩
      | true =>
        rw [hf] at f1
        have f2 := figB_int hf (by decide)
        refine ⟨_, _, by simp; rfl, by simp [A__law_is_far_1, f1, f2, e10]; rfl, ?_⟩
        by_cases hv : 1000000000000 < valW w
        · exact .inr (by simp [hv, A__law_is_far_2])
        · exact .inl (by simp [hv])
    · have := h3.len
      rw [sizeLine_eq, List.length_nil]
      omega
  have e4 := neG_nil (k := 1) (ds := (((Txt.split u ⟨#[32]⟩).filter fun w => figB 13 w && decide (1000000000000 < valW w)).map .str)) (Dt.lst fun d hd => by
    obtain ⟨w, hw, rfl⟩ := List.mem_map.mp hd
    exact (h3.word w (List.mem_filter.mp hw).1).dt) (by decide)
  generalize (((Txt.split u ⟨#[32]⟩).filter fun w => figB 13 w && decide (1000000000000 < valW w)).map D.str) = X at *
  refine ⟨decide (X ≠ []), ?_⟩
  rw [E__law_is_far]
  simp [B__law_is_far, List.replicate, e0, e1, e2]
  rw [e3]
  simp [e4]
def oddW : List Str := ["road", "ban", "drop", "free", "undo", "0", "00", "999", "1000", "1000000000", "1000000001", "a", "A1", "", "12345678901234", "1000001", "-1", "7", "12345678", "closed"]
def sgnW : List Str := [" ", "0", "a", "A", "-", ".", "9", "z", "  "]
theorem odd_tx : ∀ x ∈ oddW, Tx 20 x := by
  have : ∀ x ∈ oddW, x.length ≤ 20 ∧ ∀ c ∈ sg x, c < 1000 := by decide +kernel
  exact this
theorem sgn_tx : ∀ x ∈ sgnW, Tx 20 x := by
  have : ∀ x ∈ sgnW, x.length ≤ 20 ∧ ∀ c ∈ sg x, c < 1000 := by decide +kernel
  exact this
theorem row_spoilt_ex (c : List Int) (hc : c.length < 1000) (n : Nat) (r : List D) (row : Str) (L : Nat) (hx : Tx L row) (hL : L ≤ 200000) :
    ∃ (x' : Str) (n' : Nat), F__law_row_spoilt [.ref 0, .str row] (drawD c n :: r) = .ok (.str x') false (drawD c n' :: r) ∧ Tx (2 * L + 100) x' := by
  have hw := hx.split (k := 32)
  have hlen := hw.len
  have hne := split_ne row 32
  have hxl := hx.1
  have e0 : splitG (.str row) [.str (Str.ofString " ")] = some (.nd .lst ((Txt.split row ⟨#[32]⟩).map .str), true) := by
    rw [lit_sp, splitG_one row 32 (by rw [sizeLine_eq]; omega)]
  generalize Txt.split row ⟨#[32]⟩ = ws at *
  obtain ⟨v, v0, v1, e1⟩ := next_in c hc n 7 (by decide) r
  have hp : 0 < (ws.length : Int) := by
    have : ws.length ≠ 0 := fun z => hne (List.length_eq_zero_iff.mp z)
    omega
  obtain ⟨at_, a0, a1, e2⟩ := next_in c hc (n + 1) ws.length hp r
  obtain ⟨sp, s0, s1, e3⟩ := next_in c hc (n + 1 + 1) ((row.length : Int) + 1) (by omega) r
  have hrl : row.length ≤ sizeLine := by rw [sizeLine_eq]; omega
  have cl : ∀ lo hi, (cutL ws lo hi).length ≤ 200001 := fun lo hi => by have := (hw.cut (lo := lo) (hi := hi)).len; omega
  have j2 : ∀ lo hi lo' hi', ∃ J, joinG (.str (Str.ofString " ")) [.nd .lst ((cutL ws lo hi).map .str ++ (cutL ws lo' hi').map .str)] = some (.str J, false) ∧ Tx (2 * L + 100) J := by
    intro lo hi lo' hi'
    have h1 := (hw.cut (lo := lo) (hi := hi)).app (hw.cut (lo := lo') (hi := hi'))
    refine ⟨_, ?_, (h1.join (k := 32) (by decide)).mono (by omega)⟩
    rw [lit_sp, ← List.map_append]
    exact h1.joinG (by omega)
  have z2 : ∀ lo hi lo' hi', (cutL ws lo hi).length + (cutL ws lo' hi').length ≤ sizeLine := fun lo hi lo' hi' => by
    have h1 := cl lo hi
    have h2 := cl lo' hi'
    rw [sizeLine_eq]
    omega
  rw [E__law_row_spoilt]
  by_cases h0 : v = 0
  · subst h0
    obtain ⟨J, j, hJ⟩ := j2 none (some at_) (some (at_ + 1)) none
    exact ⟨J, n + 1 + 1 + 1, by simp [B__law_row_spoilt, List.replicate, e0, e1, e2, hrl, e3, cutL_map, z2, j], hJ⟩
  by_cases h1 : v = 1
  · subst h1
    obtain ⟨J, j, hJ⟩ := j2 none (some (at_ + 1)) (some at_) none
    exact ⟨J, n + 1 + 1 + 1, by simp [B__law_row_spoilt, List.replicate, e0, e1, e2, hrl, e3, cutL_map, z2, j], hJ⟩
  by_cases h2 : v = 2
  · subst h2
    obtain ⟨o, ho, e4⟩ := pick_str c hc (n + 1 + 1 + 1) r oddW (by decide +kernel)
    have to := odd_tx o ho
    have hh := ((hw.cut (lo := none) (hi := some at_)).app (Wl.one to)).app (hw.cut (lo := some (at_ + 1)) (hi := none))
    have j : joinG (.str (Str.ofString " ")) [.nd .lst ((cutL ws none (some at_)).map .str ++ ([D.str o] ++ (cutL ws (some (at_ + 1)) none).map .str))] = some (.str (Str.join ⟨#[32]⟩ ((cutL ws none (some at_) ++ [o]) ++ cutL ws (some (at_ + 1)) none)), false) := by
      have := hh.joinG (k := 32) (by omega)
      rw [lit_sp]
      simpa using this
    have c1 := cl none (some at_)
    have c2 := cl (some (at_ + 1)) none
    have q1 : (cutL ws none (some at_)).length + 1 ≤ sizeLine := by rw [sizeLine_eq]; omega
    have q2 : (cutL ws none (some at_)).length + 1 + (cutL ws (some (at_ + 1)) none).length ≤ sizeLine := by rw [sizeLine_eq]; omega
    have q3 : 12 + 8 ≤ sizeLine := by rw [sizeLine_eq]; decide
    simp only [oddW, List.map] at e4
    simp at j
    refine ⟨_, n + 1 + 1 + 1 + 1, ?_, (hh.join (k := 32) (by decide)).mono (by omega)⟩
    simp [B__law_row_spoilt, List.replicate, e0, e1, e2, hrl, e3, cutL_map, q1, q2, q3, e4, j]
  by_cases h3 : v = 3
  · subst h3
    have hh := ((hw.cut (lo := none) (hi := some at_)).app (hw.cut (lo := some at_) (hi := some (at_ + 2))).rev).app (hw.cut (lo := some (at_ + 2)) (hi := none))
    have hh' : Wl (2 * L + 20) ((cutL ws none (some at_) ++ (cutL ws (some at_) (some (at_ + 2))).reverse) ++ cutL ws (some (at_ + 2)) none) := by
      refine ⟨?_, hh.2⟩
      rw [wt_app, wt_app]
      have rv : wt (cutL ws (some at_) (some (at_ + 2))).reverse = wt (cutL ws (some at_) (some (at_ + 2))) := by
        unfold wt
        rw [List.map_reverse, List.length_reverse, List.sum_reverse]
      rw [rv]
      have k1 := hw.1
      have k2 := (hw.cut (lo := none) (hi := some at_)).1
      have k3 := (hw.cut (lo := some at_) (hi := none)).1
      have k4 : wt (cutL ws (some at_) (some (at_ + 2))) + wt (cutL ws (some (at_ + 2)) none) ≤ L + 1 := by
        unfold cutL
        have e : ws.length - HT.sIx ws.length 0 (some at_) = (ws.drop (HT.sIx ws.length 0 (some at_))).length := by rw [List.length_drop]
        have m1 : HT.sIx ws.length 0 (some (at_ + 2)) = HT.sIx ws.length ws.length (some (at_ + 2)) := rfl
        have m2 : HT.sIx ws.length 0 (some at_) ≤ HT.sIx ws.length ws.length (some (at_ + 2)) := by
          unfold HT.sIx
          dsimp only
          rw [if_neg (by omega), if_neg (by omega)]
          omega
        rw [m1, show HT.sIx ws.length ws.length none = ws.length from rfl]
        generalize HT.sIx ws.length 0 (some at_) = i at *
        generalize HT.sIx ws.length ws.length (some (at_ + 2)) = j at *
        have t1 := wt_take (ws.length - j) (ws.drop j)
        have t2 : wt ((ws.drop i).take (j - i)) + wt ((ws.drop i).drop (j - i)) = wt (ws.drop i) := by rw [← wt_app, List.take_append_drop]
        rw [List.drop_drop, show i + (j - i) = j from by omega] at t2
        have t3 := wt_drop i ws
        omega
      omega
    have j : joinG (.str (Str.ofString " ")) [.nd .lst ((cutL ws none (some at_)).map .str ++ (((cutL ws (some at_) (some (at_ + 2))).map .str).reverse ++ (cutL ws (some (at_ + 2)) none).map .str))] = some (.str (Str.join ⟨#[32]⟩ ((cutL ws none (some at_) ++ (cutL ws (some at_) (some (at_ + 2))).reverse) ++ cutL ws (some (at_ + 2)) none)), false) := by
      have := hh'.joinG (k := 32) (by omega)
      rw [lit_sp]
      simpa using this
    have c1 := cl none (some at_)
    have c2 := cl (some at_) (some (at_ + 2))
    have c3 := cl (some (at_ + 2)) none
    have q1 : (cutL ws none (some at_)).length + (cutL ws (some at_) (some (at_ + 2))).length ≤ sizeLine := by rw [sizeLine_eq]; omega
    have q2 : (cutL ws none (some at_)).length + (cutL ws (some at_) (some (at_ + 2))).length + (cutL ws (some (at_ + 2)) none).length ≤ sizeLine := by rw [sizeLine_eq]; omega
    simp at j
    refine ⟨_, n + 1 + 1 + 1, ?_, (hh'.join (k := 32) (by decide)).mono (by omega)⟩
    simp [B__law_row_spoilt, List.replicate, e0, e1, e2, hrl, e3, cutL_map, q1, q2, j]
  obtain ⟨o, ho, e4⟩ := pick_str c hc (n + 1 + 1 + 1) r sgnW (by decide +kernel)
  have to := sgn_tx o ho
  simp only [sgnW, List.map] at e4
  have c1 : ∀ lo hi, (L2.cutS row lo hi).length ≤ row.length := fun lo hi => L2.cutS_length row lo hi
  have fin : ∀ (o' : Str) (i : Int), Tx 20 o' → ((L2.cutS row none (some sp)).length + o'.length ≤ sizeLine ∧ (L2.cutS row none (some sp) ++ o').length + (L2.cutS row (some i) none).length ≤ sizeLine) ∧ Tx (2 * L + 100) (L2.cutS row none (some sp) ++ o' ++ L2.cutS row (some i) none) := by
    intro o' i ht
    have k1 := c1 none (some sp)
    have k2 := c1 (some i) none
    have k3 := ht.1
    refine ⟨⟨by rw [sizeLine_eq]; omega, by rw [sizeLine_eq, Str.length_append]; omega⟩, ?_⟩
    exact ((hx.cutS.app ht).app hx.cutS).mono (by omega)
  have te : Tx 20 Str.empty := ⟨by decide, by intro c hc; cases hc⟩
  by_cases h4 : v = 4
  · subst h4
    obtain ⟨⟨f1, f2⟩, f3⟩ := fin Str.empty (sp + 1) te
    exact ⟨_, n + 1 + 1 + 1 + 1, by simp [B__law_row_spoilt, List.replicate, e0, e1, e2, hrl, e3, e4, f1, f2], f3⟩
  by_cases h5 : v = 5
  · subst h5
    obtain ⟨⟨f1, f2⟩, f3⟩ := fin o sp to
    exact ⟨_, n + 1 + 1 + 1 + 1, by simp [B__law_row_spoilt, List.replicate, e0, e1, e2, hrl, e3, e4, f1, f2], f3⟩
  · obtain ⟨⟨f1, f2⟩, f3⟩ := fin o (sp + 1) to
    exact ⟨_, n + 1 + 1 + 1 + 1, by simp [B__law_row_spoilt, List.replicate, e0, e1, e2, hrl, e3, h0, h1, h2, h3, h4, h5, e4, f1, f2], f3⟩
theorem spoilt_ex (c : List Int) (hc : c.length < 1000) (n : Nat) (r : List D) (t : Str) (L : Nat) (hx : Tx L t) (hL : L ≤ 50000) :
    ∃ (x' : Str) (n' : Nat), F__law_spoilt [.ref 0, .str t] (drawD c n :: r) = .ok (.str x') false (drawD c n' :: r) ∧ Tx (4 * L + 200) x' := by
  have hw := hx.split (k := 10)
  have hlen := hw.len
  have hne := split_ne t 10
  have hxl := hx.1
  have e0 : splitG (.str t) [.str (Str.ofString "\n")] = some (.nd .lst ((Txt.split t ⟨#[10]⟩).map .str), true) := by
    rw [lit_nl, splitG_one t 10 (by rw [sizeLine_eq]; omega)]
  generalize Txt.split t ⟨#[10]⟩ = ws at *
  obtain ⟨v, v0, v1, e1⟩ := next_in c hc n 7 (by decide) r
  have hp : 0 < (ws.length : Int) := by
    have : ws.length ≠ 0 := fun z => hne (List.length_eq_zero_iff.mp z)
    omega
  obtain ⟨at_, a0, a1, e2⟩ := next_in c hc (n + 1) ws.length hp r
  have hrl : t.length ≤ sizeLine := by rw [sizeLine_eq]; omega
  have cl : ∀ lo hi, (cutL ws lo hi).length ≤ 50001 := fun lo hi => by have := (hw.cut (lo := lo) (hi := hi)).len; omega
  have j2 : ∀ lo hi lo' hi', ∃ J, joinG (.str (Str.ofString "\n")) [.nd .lst ((cutL ws lo hi).map .str ++ (cutL ws lo' hi').map .str)] = some (.str J, false) ∧ Tx (4 * L + 200) J := by
    intro lo hi lo' hi'
    have h1 := (hw.cut (lo := lo) (hi := hi)).app (hw.cut (lo := lo') (hi := hi'))
    refine ⟨_, ?_, (h1.join (k := 10) (by decide)).mono (by omega)⟩
    rw [lit_nl, ← List.map_append]
    exact h1.joinG (by omega)
  have z2 : ∀ lo hi lo' hi', (cutL ws lo hi).length + (cutL ws lo' hi').length ≤ sizeLine := fun lo hi lo' hi' => by
    have h1 := cl lo hi
    have h2 := cl lo' hi'
    rw [sizeLine_eq]
    omega
  rw [E__law_spoilt]
  by_cases h0 : v = 0
  · subst h0
    exact ⟨_, n + 1 + 1, by simp [B__law_spoilt, List.replicate, e0, e1, e2, hrl], (hx.cutS (lo := none) (hi := some (-1))).mono (by omega)⟩
  by_cases h1 : v = 1
  · subst h1
    obtain ⟨J, j, hJ⟩ := j2 none (some at_) (some (at_ + 1)) none
    exact ⟨J, n + 1 + 1, by simp [B__law_spoilt, List.replicate, e0, e1, e2, hrl, cutL_map, z2, j], hJ⟩
  by_cases h2 : v = 2
  · subst h2
    obtain ⟨J, j, hJ⟩ := j2 none (some (at_ + 1)) (some at_) none
    exact ⟨J, n + 1 + 1, by simp [B__law_spoilt, List.replicate, e0, e1, e2, hrl, cutL_map, z2, j], hJ⟩
  by_cases h3 : v = 3
  · subst h3
    obtain ⟨k, k0, k1, e3⟩ := next_in c hc (n + 1 + 1) ((t.length : Int) + 1) (by omega) r
    exact ⟨_, n + 1 + 1 + 1, by simp [B__law_spoilt, List.replicate, e0, e1, e2, hrl, e3], (hx.cutS (lo := none) (hi := some k)).mono (by omega)⟩
  obtain ⟨m, rfl⟩ := Int.eq_ofNat_of_zero_le a0
  have hm : m < ws.length := by omega
  have ei : ixG (.nd .lst (ws.map .str)) (.int (m : Int)) = some (.str ws[m], false) := ixG_lst _ _ _ (atI_nat _ m _ (by rw [List.getElem?_map, List.getElem?_eq_getElem hm]; rfl))
  obtain ⟨row', n', e4, to⟩ := row_spoilt_ex c hc (n + 1 + 1) r ws[m] (L + 1) (hw.word _ (List.getElem_mem _)) (by omega)
  have hh := ((hw.cut (lo := none) (hi := some (m : Int))).app (Wl.one to)).app (hw.cut (lo := some ((m : Int) + 1)) (hi := none))
  have j : joinG (.str (Str.ofString "\n")) [.nd .lst ((cutL ws none (some (m : Int))).map .str ++ ([D.str row'] ++ (cutL ws (some ((m : Int) + 1)) none).map .str))] = some (.str (Str.join ⟨#[10]⟩ ((cutL ws none (some (m : Int)) ++ [row']) ++ cutL ws (some ((m : Int) + 1)) none)), false) := by
    have := hh.joinG (k := 10) (by omega)
    rw [lit_nl]
    simpa using this
  have c1 := cl none (some (m : Int))
  have c2 := cl (some ((m : Int) + 1)) none
  have q1 : (cutL ws none (some (m : Int))).length + 1 ≤ sizeLine := by rw [sizeLine_eq]; omega
  have q2 : (cutL ws none (some (m : Int))).length + 1 + (cutL ws (some ((m : Int) + 1)) none).length ≤ sizeLine := by rw [sizeLine_eq]; omega
  simp at j
  refine ⟨_, n', ?_, (hh.join (k := 10) (by decide)).mono (by omega)⟩
  simp [B__law_spoilt, List.replicate, e0, e1, e2, hrl, h0, h1, h2, h3, ei, e4, cutL_map, q1, q2, j]
theorem text_ev (es : List Ed) (h : List D) (k : Nat) (hk : h[k]? = some (.nd .lst (es.map Ed.d))) (ok : ∀ e ∈ es, e.okB = true) (hl : es.length ≤ 1000) : F__law_text [.ref k] h = .ok (.str (eds_text es)) false h := by
  rw [E__law_text]
  have el : lcL (.hp k) (.nd .lst (es.map Ed.d)) [2, 3, 4] ⟨[.fz (.ref k), .un, .un, .un, .un], h⟩ (gtTup 3 (gtCons (gtName 2) (gtCons (gtName 3) (gtCons (gtName 4) gtNil)))) (eC true) L__law_text_2 (es.map Ed.d) [] ⟨[.fz (.ref k), .un, .un, .un, .un], h⟩ = .ok (.nd .lst ((es.map Ed.row).map .str), true) ⟨[.fz (.ref k), .un, .un, .un, .un], h⟩ := by
    rw [lcL_mapT Ed.d (fun e => .str e.row)]
    · simp
    · intro e he
      have eok := ok e he
      have e1 : lcL .non (.nd .tup e.w.ds) [1] ⟨[.fz (.ref k), .un, .fz (.int e.st), .fz (.str e.hand), .fz (.nd .tup e.w.ds)], h⟩ (gtName 1) (eC true) L__law_text_1 (e.w.ds) [] ⟨[.fz (.ref k), .un, .fz (.int e.st), .fz (.str e.hand), .fz (.nd .tup e.w.ds)], h⟩ = .ok (.nd .lst (e.w.ws.map fun x => .str (wS x)), true) ⟨[.fz (.ref k), .un, .fz (.int e.st), .fz (.str e.hand), .fz (.nd .tup e.w.ds)], h⟩ := by
        rw [← Wt.ws_ds, lcL_mapT wD (fun x => .str (wS x))]
        · simp
        · intro x hx
          have := Ed.ws_ok eok x (by simp [Ed.ws, hx])
          cases x with
          | inl i =>
            simp only [okW] at this
            simp [A__law_text_1, wD, wS, strG_num i (by omega)]
          | inr x => simp [A__law_text_1, wD, wS]
        · have := Wt.ws_len e.w
          rw [sizeLine_eq, List.length_nil]
          omega
      have hst := Ed.ws_ok eok (.inl e.st) (by simp [Ed.ws])
      simp only [okW] at hst
      have e2 := strG_num e.st (by omega)
      have hl := Wt.ws_len e.w
      have ez : 2 + e.w.ws.length ≤ sizeLine := by rw [sizeLine_eq]; omega
      have hsum : ((e.ws.map wS).map (·.length)).sum ≤ (e.ws.map wS).length * 10 := sum_le fun y hy => by
        obtain ⟨z, hz, rfl⟩ := List.mem_map.mp hy
        exact okW_len (Ed.ws_ok eok z hz)
      have e7 : (e.ws.map wS).length ≤ 7 := by
        rw [List.length_map]
        have e2 : e.ws.length = e.w.ws.length + 2 := rfl
        omega
      have l1 : (Str.ofString " ").length = 1 := by decide +kernel
      have l2 : (Str.ofString "\n").length = 1 := by decide +kernel
      have ej := joinG_lst (Str.ofString " ") (e.ws.map wS) (by rw [l1]; omega)
      have em : (e.ws.map wS).map D.str = .str (numS e.st) :: .str e.hand :: e.w.ws.map fun x => .str (wS x) := by
        simp [Ed.ws, wS]
      rw [em] at ej
      have esz : (Str.join (Str.ofString " ") (e.ws.map wS)).length + (Str.ofString "\n").length ≤ sizeLine := by
        have h1 := join_nlen (Str.ofString " ") (e.ws.map wS)
        rw [l1] at h1
        rw [sizeLine_eq]
        omega
      have hs : ∀ r, Gd.still (.hp k) (.nd .lst (es.map Ed.d)) ⟨r, h⟩ = true := fun r => still_hp.mpr hk
      simp [A__law_text_2, Ed.d, e1, e2, ez, ej, esz, Ed.row, rowS, hs]
    · rw [sizeLine_eq, List.length_nil]
      omega
  have ej := joinG_lst (Str.ofString "") (es.map Ed.row) (by
    have h2 : ((es.map Ed.row).map (·.length)).sum ≤ (es.map Ed.row).length * 78 := sum_le fun x hx => by
      obtain ⟨e, he, rfl⟩ := List.mem_map.mp hx
      exact Ed.row_len (ok e he)
    have e1 : (Str.ofString "").length = 0 := by decide +kernel
    rw [e1]
    rw [List.length_map] at h2
    omega)
  rw [lit_e] at ej
  simp [B__law_text, List.replicate, hk, -List.map_map, el, ej, eds_text, lit_e]
theorem eds_tx {es : List Ed} (h : ∀ e ∈ es, e.okB = true) (hl : es.length ≤ 16) : Tx 1248 (eds_text es) := by
  refine ⟨by have := eds_text_len h; omega, fun c hc => ?_⟩
  have e1 : eds_text es = Str.join ⟨#[10]⟩ (es.map Ed.line ++ [Str.empty]) := by
    rw [← join_rows 10 (es.map Ed.line)]
    unfold eds_text
    rw [List.map_map]
    rw [show Ed.row = ((fun x => x ++ ⟨#[10]⟩) ∘ Ed.line) from funext Ed.row_line]
  rw [e1] at hc
  rcases sg_join_mem 10 _ c hc with rfl | ⟨p, hp, hc⟩
  · decide
  · rcases List.mem_append.mp hp with hp | hp
    · obtain ⟨e, he, rfl⟩ := List.mem_map.mp hp
      rcases sg_join_mem 32 _ c hc with rfl | ⟨q, hq, hc⟩
      · decide
      · obtain ⟨x, hx, rfl⟩ := List.mem_map.mp hq
        exact ws_small (h e he) x hx c hc
    · rw [List.mem_singleton.mp hp] at hc
      cases hc
end TD.K75

end
section
set_option maxRecDepth 100000
set_option maxHeartbeats 4000000
/-! V6: k75 holds. -/
namespace TD.K75
open PySem PySem.NumText PyProof.Rows
theorem spoil_loop (c : List Int) (hc : c.length < 1000) (x0 x2 : Sl) : ∀ (ds : List D) (n : Nat) (r : List D) (t : Str) (L : Nat) (a3 x4 : Sl), a3.val = some (.str t) → x4.nl = true → Tx L t → L * 4 ^ ds.length + 67 * 4 ^ ds.length ≤ 90000 →
    ∃ (t' : Str) (n' : Nat) (r' : List D) (y3 y4 : Sl), forL .non .non (gtName 4) L_law_1 ds ⟨[x0, .fz (.ref 0), x2, a3, x4], drawD c n :: r⟩ = .nx ⟨[x0, .fz (.ref 0), x2, y3, y4], drawD c n' :: r'⟩ ∧ y3.val = some (.str t') ∧ y4.nl = true ∧ Tx 90000 t'
  | [], n, r, t, L, a3, x4, h3, h4, ht, hl => ⟨t, n, r, a3, x4, by unfold forL; simp, h3, h4, ht.mono (by simp at hl; omega)⟩
  | d :: ds, n, r, t, L, a3, x4, h3, h4, ht, hl => by
    rw [List.length_cons, Nat.pow_succ] at hl
    have hp : 1 ≤ 4 ^ ds.length := Nat.one_le_pow _ _ (by decide)
    have hL : L ≤ 50000 := by
      have : L * 1 ≤ L * 4 ^ ds.length := Nat.mul_le_mul_left _ hp
      have e : L * (4 ^ ds.length * 4) = L * 4 ^ ds.length * 4 := by rw [Nat.mul_assoc]
      omega
    obtain ⟨x', n', e1, t1⟩ := spoilt_ex c hc n r t L ht hL
    have n3 := nl_val h3
    obtain ⟨t', n2, r2, y3, y4, g1, g2, g3, g4⟩ := spoil_loop c hc x0 x2 ds n' r x' (4 * L + 200) (.fz (.str x')) (.fz d) rfl rfl t1 (by
      have e : L * (4 ^ ds.length * 4) = 4 * L * 4 ^ ds.length := by rw [← Nat.mul_assoc, Nat.mul_comm (L * 4 ^ ds.length) 4, Nat.mul_assoc]
      have e3 : 67 * (4 ^ ds.length * 4) = 268 * 4 ^ ds.length := by omega
      rw [Nat.add_mul]
      omega)
    refine ⟨t', n2, r2, y3, y4, ?_, g2, g3, g4⟩
    unfold forL
    simp [A_law_1, h3, h4, e1, n3]
    exact g1
theorem body_ex (c : List Int) (hc : c.length < 1000) (n : Nat) (r : List D) (x0 x2 x3 x4 : Sl) (h3 : x3.nl = true) (h4 : x4.nl = true) :
    ∃ (n' : Nat) (r' : List D) (y3 y4 : Sl), L_law_2 ⟨[x0, .fz (.ref 0), x2, x3, x4], drawD c n :: r⟩ = .nx ⟨[x0, .fz (.ref 0), x2, y3, y4], drawD c n' :: r'⟩ ∧ y3.nl = true ∧ y4.nl = true := by
  obtain ⟨k, k0, k1, e1⟩ := next_in c hc n 9 (by decide) r
  obtain ⟨m, rfl⟩ := Int.eq_ofNat_of_zero_le k0
  obtain ⟨es, n1, e2, ok, l0⟩ := edits_ex c hc (n + 1) r m (by omega)
  have e3 := text_ev es (drawD c n1 :: (r ++ [.nd .lst (es.map Ed.d)])) (r.length + 1) (by simp) ok (by omega)
  have tx := eds_tx ok (by omega)
  generalize eds_text es = t at *
  generalize (r ++ [D.nd .lst (es.map Ed.d)]) = q at *
  obtain ⟨j, j0, j1, e4⟩ := next_in c hc n1 4 (by decide) q
  have g0 : -1000 ≤ j := by omega
  have g1 : j ≤ 1000000000 := by omega
  obtain ⟨t', n2, r2, y3, y4, e5, v3, v4, t4⟩ := spoil_loop c hc x0 x2 ((List.range j.toNat).map fun (i : Nat) => D.int (i : Int)) (n1 + 1) q t 1248 (.fz (.str t)) x4 rfl h4 tx (by
    rw [List.length_map, List.length_range]
    have : j.toNat ≤ 3 := by omega
    have : 4 ^ j.toNat ≤ 4 ^ 3 := Nat.pow_le_pow_right (by decide) this
    omega)
  obtain ⟨b, e6⟩ := far_ev t' (drawD c n2 :: r2) 90000 t4 (by decide)
  have e7 := right_ev t' (drawD c n2 :: r2) t4
  have n3 := nl_val v3
  refine ⟨n2, r2, .fz (.str t'), y4, ?_, rfl, v4⟩
  cases b with
  | false => simp [A_law_2, h3, h4, e1, e2, e3, e4, g0, g1, e5, v3, e6, e7]
  | true => simp [A_law_2, h3, h4, e1, e2, e3, e4, g0, g1, e5, v3, e6, e7]
theorem last_ok (x : D) (h : List D) (hx : x ∈ [D.non, .int 0, .bl true, .nd .lst [.str (Str.ofString "5 a drop b")], .nd .tup [], .nd .dct [], .int 7]) : F__law_right [x] h = .ok (.bl true) false h := by
  simp only [List.mem_cons, List.not_mem_nil, or_false] at hx
  rcases hx with rfl | rfl | rfl | rfl | rfl | rfl | rfl
  · exact right_no _ h "NoneType" (fun _ => rfl) rfl (by decide)
  · exact right_no _ h "int" (fun _ => rfl) rfl (by decide)
  · exact right_no _ h "bool" (fun _ => rfl) rfl (by decide)
  · exact right_no _ h "list" (fun _ => rfl) rfl (by decide)
  · exact right_no _ h "tuple" (fun _ => rfl) rfl (by decide)
  · exact right_no _ h "dict" (fun _ => rfl) rfl (by decide)
  · exact right_no _ h "int" (fun _ => rfl) rfl (by decide)
theorem law_true : ∀ ns : List Int, ns.length ≤ 63 → (∀ z ∈ ns, Builtin.Int.intBits z ≤ 1048576) → ∃ h', F_law [.nd .scr (ns.map .int)] [] = .ok (.bl true) false h' := by
  intro ns hl _
  rw [E_law]
  have hc : ns.length < 1000 := by omega
  have hd : D.nd .lst [.nd .lst (ns.map .int), .int 0] = drawD ns 0 := rfl
  obtain ⟨m, hm, m0, m1⟩ : ∃ m : Int, minG [.int 8, .int (ns.length : Int)] = some (.int m, false) ∧ 0 ≤ m ∧ m ≤ 8 := by
    refine ⟨_, minG_int _ _, ?_⟩
    split <;> omega
  obtain ⟨j, hj, j0, j1⟩ : ∃ j : Int, maxG [.int 1, .int m] = some (.int j, false) ∧ -1000 ≤ j ∧ j ≤ 1000000000 := by
    refine ⟨_, maxG_int _ _, ?_⟩
    split <;> omega
  obtain ⟨n, r, x2, y3, y4, e⟩ : ∃ (n : Nat) (r : List D) (x2 y3 y4 : Sl), forL .non .non (gtName 2) L_law_2 ((List.range j.toNat).map fun (i : Nat) => D.int (i : Int)) ⟨[.fz (.nd .scr (ns.map .int)), .fz (.ref 0), .un, .un, .un], drawD ns 0 :: []⟩ = .nx ⟨[.fz (.nd .scr (ns.map .int)), .fz (.ref 0), x2, y3, y4], drawD ns n :: r⟩ := by
    refine forL_inv (I := fun ds s => ∃ (n : Nat) (r : List D) (x2 y3 y4 : Sl), s = ⟨[.fz (.nd .scr (ns.map .int)), .fz (.ref 0), x2, y3, y4], drawD ns n :: r⟩ ∧ x2.nl = true ∧ y3.nl = true ∧ y4.nl = true)
      (R := fun o => ∃ (n : Nat) (r : List D) (x2 y3 y4 : Sl), o = .nx ⟨[.fz (.nd .scr (ns.map .int)), .fz (.ref 0), x2, y3, y4], drawD ns n :: r⟩) _ _ ⟨0, [], .un, .un, .un, rfl, rfl, rfl, rfl⟩ ?_ ?_
    · rintro d ds s ⟨n, r, x2, y3, y4, rfl, h2, h3, h4⟩
      obtain ⟨n', r', z3, z4, eb, g3, g4⟩ := body_ex ns hc n r (.fz (.nd .scr (ns.map .int))) (.fz d) y3 y4 h3 h4
      exact ⟨_, by simp [h2], .inl ⟨_, .inl eb, n', r', _, z3, z4, rfl, rfl, g3, g4⟩⟩
    · rintro s ⟨n, r, x2, y3, y4, rfl, _⟩
      exact ⟨n, r, x2, y3, y4, rfl⟩
  have e1 := pick_ev ns n .lst (.inl rfl) .non [.non, .int 0, .bl true, .nd .lst [.str (Str.ofString "5 a drop b")], .nd .tup [], .nd .dct [], .int 7] r hc (by simp)
  have hmem := pk_mem (c := ns) (n := n) (a := D.non) (l := [D.non, .int 0, .bl true, .nd .lst [.str (Str.ofString "5 a drop b")], .nd .tup [], .nd .dct [], .int 7]) (by simp)
  generalize pk ns n D.non [D.non, .int 0, .bl true, .nd .lst [.str (Str.ofString "5 a drop b")], .nd .tup [], .nd .dct [], .int 7] = d at *
  have e2 := last_ok d (drawD ns (n + 1) :: r) hmem
  refine ⟨drawD ns (n + 1) :: r, ?_⟩
  simp [B_law, List.replicate, hd, -minG_int, -maxG_int, hm, hj, j0, j1, e, e1, e2]
end TD.K75

end
section
set_option maxRecDepth 100000
set_option maxHeartbeats 4000000
namespace TD.K75
open PySem PySem.Spec PyProof.Rows L2
def dD_is_within : He.DefD := ⟨("is_within", none), "is_within", "is_within", defArgs st_is_within, defBody st_is_within, defScope st_is_within, [], []⟩
def dD_is_name : He.DefD := ⟨("is_name", none), "is_name", "is_name", defArgs st_is_name, defBody st_is_name, defScope st_is_name, [], []⟩
def dD_is_place : He.DefD := ⟨("is_place", none), "is_place", "is_place", defArgs st_is_place, defBody st_is_place, defScope st_is_place, [], []⟩
def dD_is_road : He.DefD := ⟨("is_road", none), "is_road", "is_road", defArgs st_is_road, defBody st_is_road, defScope st_is_road, [], []⟩
def dD_is_stamp : He.DefD := ⟨("is_stamp", none), "is_stamp", "is_stamp", defArgs st_is_stamp, defBody st_is_stamp, defScope st_is_stamp, [], []⟩
def dD_is_what : He.DefD := ⟨("is_what", none), "is_what", "is_what", defArgs st_is_what, defBody st_is_what, defScope st_is_what, [], []⟩
def dD_is_edit : He.DefD := ⟨("is_edit", none), "is_edit", "is_edit", defArgs st_is_edit, defBody st_is_edit, defScope st_is_edit, [], []⟩
def dD_need_edits : He.DefD := ⟨("need_edits", none), "need_edits", "need_edits", defArgs st_need_edits, defBody st_need_edits, defScope st_need_edits, [], []⟩
def dD_is_figures : He.DefD := ⟨("is_figures", none), "is_figures", "is_figures", defArgs st_is_figures, defBody st_is_figures, defScope st_is_figures, [], [("most", .int 13)]⟩
def dD_rows_of : He.DefD := ⟨("rows_of", none), "rows_of", "rows_of", defArgs st_rows_of, defBody st_rows_of, defScope st_rows_of, [], []⟩
def dD_told_by : He.DefD := ⟨("told_by", none), "told_by", "told_by", defArgs st_told_by, defBody st_told_by, defScope st_told_by, [], [("most", .int 13)]⟩
def dD_row_text : He.DefD := ⟨("row_text", none), "row_text", "row_text", defArgs st_row_text, defBody st_row_text, defScope st_row_text, [], []⟩
def dD_edit_told : He.DefD := ⟨("edit_told", none), "edit_told", "edit_told", defArgs st_edit_told, defBody st_edit_told, defScope st_edit_told, [], [("most", .int 13)]⟩
def dD_edits_text : He.DefD := ⟨("edits_text", none), "edits_text", "edits_text", defArgs st_edits_text, defBody st_edits_text, defScope st_edits_text, [], []⟩
def dD_read_edits : He.DefD := ⟨("read_edits", none), "read_edits", "read_edits", defArgs st_read_edits, defBody st_read_edits, defScope st_read_edits, [], []⟩
def dD__law_mixed : He.DefD := ⟨("_law_mixed", none), "_law_mixed", "_law_mixed", defArgs st__law_mixed, defBody st__law_mixed, defScope st__law_mixed, [], []⟩
def dD__law_next : He.DefD := ⟨("_law_next", none), "_law_next", "_law_next", defArgs st__law_next, defBody st__law_next, defScope st__law_next, [], []⟩
def dD__law_names : He.DefD := ⟨("_law_names", none), "_law_names", "_law_names", defArgs st__law_names, defBody st__law_names, defScope st__law_names, [], []⟩
def dD__law_pick : He.DefD := ⟨("_law_pick", none), "_law_pick", "_law_pick", defArgs st__law_pick, defBody st__law_pick, defScope st__law_pick, [], []⟩
def dD__law_places : He.DefD := ⟨("_law_places", none), "_law_places", "_law_places", defArgs st__law_places, defBody st__law_places, defScope st__law_places, [], []⟩
def dD__law_what : He.DefD := ⟨("_law_what", none), "_law_what", "_law_what", defArgs st__law_what, defBody st__law_what, defScope st__law_what, [], []⟩
def dD__law_edits : He.DefD := ⟨("_law_edits", none), "_law_edits", "_law_edits", defArgs st__law_edits, defBody st__law_edits, defScope st__law_edits, [], []⟩
def dD__law_figures : He.DefD := ⟨("_law_figures", none), "_law_figures", "_law_figures", defArgs st__law_figures, defBody st__law_figures, defScope st__law_figures, [], []⟩
def dD__law_name_is : He.DefD := ⟨("_law_name_is", none), "_law_name_is", "_law_name_is", defArgs st__law_name_is, defBody st__law_name_is, defScope st__law_name_is, [], []⟩
def dD__law_words : He.DefD := ⟨("_law_words", none), "_law_words", "_law_words", defArgs st__law_words, defBody st__law_words, defScope st__law_words, [], []⟩
def dD__law_row_spoilt : He.DefD := ⟨("_law_row_spoilt", none), "_law_row_spoilt", "_law_row_spoilt", defArgs st__law_row_spoilt, defBody st__law_row_spoilt, defScope st__law_row_spoilt, [], []⟩
def dD__law_spoilt : He.DefD := ⟨("_law_spoilt", none), "_law_spoilt", "_law_spoilt", defArgs st__law_spoilt, defBody st__law_spoilt, defScope st__law_spoilt, [], []⟩
def dD__law_text : He.DefD := ⟨("_law_text", none), "_law_text", "_law_text", defArgs st__law_text, defBody st__law_text, defScope st__law_text, [], []⟩
def dD__law_is_row : He.DefD := ⟨("_law_is_row", none), "_law_is_row", "_law_is_row", defArgs st__law_is_row, defBody st__law_is_row, defScope st__law_is_row, [], []⟩
def dD__law_due : He.DefD := ⟨("_law_due", none), "_law_due", "_law_due", defArgs st__law_due, defBody st__law_due, defScope st__law_due, [], []⟩
def dD__law_right : He.DefD := ⟨("_law_right", none), "_law_right", "_law_right", defArgs st__law_right, defBody st__law_right, defScope st__law_right, [], []⟩
def dD__law_is_far : He.DefD := ⟨("_law_is_far", none), "_law_is_far", "_law_is_far", defArgs st__law_is_far, defBody st__law_is_far, defScope st__law_is_far, [], []⟩
def dD_law : He.DefD := ⟨("law", none), "law", "law", defArgs st_law, defBody st_law, defScope st_law, [], []⟩
abbrev si_BadEdit : Stmt := inClass (top 3) 0
def dI_BadEdit : He.DefD := ⟨("BadEdit", some "__init__"), "__init__", "BadEdit.__init__", defArgs si_BadEdit, defBody si_BadEdit, defScope si_BadEdit, [], []⟩
abbrev si_NoText : Stmt := inClass (top 5) 0
def dI_NoText : He.DefD := ⟨("NoText", some "__init__"), "__init__", "NoText.__init__", defArgs si_NoText, defBody si_NoText, defScope si_NoText, [], []⟩
def fn : List He.DefD := [dD_is_within, dD_is_name, dD_is_place, dD_is_road, dD_is_stamp, dD_is_what, dD_is_edit, dD_need_edits, dD_is_figures, dD_rows_of, dD_told_by, dD_row_text, dD_edit_told, dD_edits_text, dD_read_edits, dD__law_mixed, dD__law_next, dD__law_names, dD__law_pick, dD__law_places, dD__law_what, dD__law_edits, dD__law_figures, dD__law_name_is, dD__law_words, dD__law_row_spoilt, dD__law_spoilt, dD__law_text, dD__law_is_row, dD__law_due, dD__law_right, dD__law_is_far, dD_law, dI_BadEdit, dI_NoText]
def fa0 : List He.Fa := [.glo "is_within", .glo "is_name", .glo "is_place", .glo "is_road", .glo "is_stamp", .glo "is_what", .glo "is_edit", .glo "need_edits", .glo "is_figures", .glo "rows_of", .glo "told_by", .glo "row_text", .glo "edit_told", .glo "edits_text", .glo "read_edits", .glo "_law_mixed", .glo "_law_next", .glo "_law_names", .glo "_law_pick", .glo "_law_places", .glo "_law_what", .glo "_law_edits", .glo "_law_figures", .glo "_law_name_is", .glo "_law_words", .glo "_law_row_spoilt", .glo "_law_spoilt", .glo "_law_text", .glo "_law_is_row", .glo "_law_due"]
def fa1 : List He.Fa := [.glo "_law_right", .glo "_law_is_far", .glo "law", .glo "WayError", .glo "NoMap", .glo "BadEdit", .glo "NoTile", .glo "NoText", .meth "BadEdit" "__init__", .meth "NoText" "__init__", .str "FIGURES" "0123456789", .glo "FORMS", .int "GREATEST_PLACE" 999, .glo "LENGTHS", .int "LONGEST" 8, .int "MOST_COST_edits" 1000000, .int "MOST_COST_maps" 1000000000, .int "MOST_STAMP" 1000000, .str "SIGNS" "abcdefghijklmnopqrstuvwxyz0123456789", .free "isinstance", .free "int", .free "bool", .free "str", .free "tuple", .free "list", .free "dict", .free "len", .free "all", .free "any", .free "range"]
def fa2 : List He.Fa := [.free "max", .free "min", .free "sum", .free "sorted", .free "enumerate", .free "zip", .free "repr", .free "set", .free "ValueError"]
def fa : List He.Fa := fa0 ++ fa1 ++ fa2
def ts : List He.Tab := [(fun K => He.ga K "FORMS", ["road", "drop", "ban", "free", "undo"]), (fun K => He.ga K "LENGTHS", ["road", "drop", "ban", "free", "undo"])]
def exs : List (PySem.W.Frag → Bool) := [noListB,
  fun K => ktabB K (He.ga K "FORMS") tb_FORMS,
  fun K => ktabB K (He.ga K "LENGTHS") tb_LENGTHS,
  fun K => oexB K (He.ga K "BadEdit"),
  fun K => decide (PySem.W.typeIn K (.ref (He.ma K (He.ga K "BadEdit") "__init__")) = some (.type "function")),
  fun K => He.eqO (PySem.W.findIn K (.ref (He.ga K "BadEdit")) "at") (some none),
  fun K => oexB K (He.ga K "NoText"),
  fun K => decide (PySem.W.typeIn K (.ref (He.ma K (He.ga K "NoText") "__init__")) = some (.type "function")),
  fun K => He.eqO (PySem.W.findIn K (.ref (He.ga K "NoText")) "row") (some none),
  fun K => fldB K "row" cs_row,
  fun K => isfB K (.ref (He.ga K "BadEdit")) xs_BadEdit,
  fun K => isfB K (.ref (He.ga K "NoMap")) xs_NoMap,
  fun K => isfB K (.ref (He.ga K "NoText")) xs_NoText,
  fun K => isfB K (.ref (He.ga K "NoTile")) xs_NoTile,
  fun K => isfB K (.type "ValueError") xs_ValueError,
  fun K => exmB K "WayError" xs_WayError]
def ex (K : PySem.W.Frag) : Bool := exs.all fun b => b K
def nm0 : List PySem.Str := ["WayError", "NoMap", "BadEdit", "NoTile", "NoText", "SIGNS", "LONGEST", "GREATEST_PLACE", "MOST_COST_maps", "is_within", "is_name", "is_place", "is_road", "MOST_STAMP", "MOST_COST_edits", "LENGTHS", "is_stamp", "is_what", "is_edit", "need_edits", "FIGURES", "MOST_FIGURES", "FORMS", "is_figures", "rows_of", "told_by", "row_text", "edit_told", "edits_text", "read_edits"]
def nm1 : List PySem.Str := ["_law_mixed", "_law_next", "_law_names", "_law_pick", "_law_places", "_law_what", "_law_edits", "_law_turned", "_law_figures", "_law_name_is", "_law_words", "_law_row_spoilt", "_law_spoilt", "_law_text", "_law_is_row", "_law_due", "_law_right", "_law_is_far"]
def names : List PySem.Str := nm0 ++ nm1
abbrev R : PySem.W.OpenRow := PySem.W.OpenLaw.row PySem.Challenge.rw_waysheld_k75_edits_read_or_refused
abbrev hk : PySem.W.Hook := He.hookX 5 fa fn ts [] ex
def ob (s : PySem.W.SharedT) : He.AlX := He.obsX 5 fa fn ts [] ex (HandSHeadRun.getT s)
theorem ob_eq (s : PySem.W.SharedT) : ob s = hk.obs s.abs := He.obsX_eq (HandSHeadRun.getT_eq s)
theorem run (w : World) : HandSHeadRun.RunEq R (PySem.W.view R.prog [53]) hk ob 3000 names w := by
  refine PySem.W.byRow2 (P := fun w => HandSHeadRun.RunEq R (PySem.W.view R.prog [53]) hk ob 3000 names w) "special-get-raises" (fun w => ?_) (fun w => ?_) w
  · intro os
    kernel_rfl
  · intro os
    kernel_rfl
theorem facts {P : Program} {w : World} {K : PySem.W.Frag} {h : Heap} {mg : Str → Option Value} {f : Addr} (X : K.In h) (G : h.Ns mainGlobals mg) (hfa : mg ("law" : Str) = some (.ref f)) (c : He.SaysX fa fn ts [] ex w h K) :
    (∀ b o vs m, K.lookup b = some o → o ≠ { cls := .type "list", data := .seq vs m }) ∧ ∃ fd : FuncData, (∀ (s : Shared) (v : Value), BindsTo s fd ⟨[v], []⟩ [("_law_script", v)]) ∧ ∀ base : Heap, K.In base → base.Ns mainGlobals mg → FnG P w K mg base 9 f fd ["_law_script"] (spD K mg 1 F_law) := by
  have e : ∀ (i : Nat) {b : PySem.W.Frag → Bool}, exs[i]? = some b → b K = true := fun i b h => List.all_eq_true.mp c.more b (List.mem_of_getElem? h)
  have g_is_within := He.glo_ok X G (c.t.d.fact 0 (f := .glo "is_within") rfl)
  have g_is_name := He.glo_ok X G (c.t.d.fact 1 (f := .glo "is_name") rfl)
  have g_is_place := He.glo_ok X G (c.t.d.fact 2 (f := .glo "is_place") rfl)
  have g_is_road := He.glo_ok X G (c.t.d.fact 3 (f := .glo "is_road") rfl)
  have g_is_stamp := He.glo_ok X G (c.t.d.fact 4 (f := .glo "is_stamp") rfl)
  have g_is_what := He.glo_ok X G (c.t.d.fact 5 (f := .glo "is_what") rfl)
  have g_is_edit := He.glo_ok X G (c.t.d.fact 6 (f := .glo "is_edit") rfl)
  have g_need_edits := He.glo_ok X G (c.t.d.fact 7 (f := .glo "need_edits") rfl)
  have g_is_figures := He.glo_ok X G (c.t.d.fact 8 (f := .glo "is_figures") rfl)
  have g_rows_of := He.glo_ok X G (c.t.d.fact 9 (f := .glo "rows_of") rfl)
  have g_told_by := He.glo_ok X G (c.t.d.fact 10 (f := .glo "told_by") rfl)
  have g_row_text := He.glo_ok X G (c.t.d.fact 11 (f := .glo "row_text") rfl)
  have g_edit_told := He.glo_ok X G (c.t.d.fact 12 (f := .glo "edit_told") rfl)
  have g_edits_text := He.glo_ok X G (c.t.d.fact 13 (f := .glo "edits_text") rfl)
  have g_read_edits := He.glo_ok X G (c.t.d.fact 14 (f := .glo "read_edits") rfl)
  have g__law_mixed := He.glo_ok X G (c.t.d.fact 15 (f := .glo "_law_mixed") rfl)
  have g__law_next := He.glo_ok X G (c.t.d.fact 16 (f := .glo "_law_next") rfl)
  have g__law_names := He.glo_ok X G (c.t.d.fact 17 (f := .glo "_law_names") rfl)
  have g__law_pick := He.glo_ok X G (c.t.d.fact 18 (f := .glo "_law_pick") rfl)
  have g__law_places := He.glo_ok X G (c.t.d.fact 19 (f := .glo "_law_places") rfl)
  have g__law_what := He.glo_ok X G (c.t.d.fact 20 (f := .glo "_law_what") rfl)
  have g__law_edits := He.glo_ok X G (c.t.d.fact 21 (f := .glo "_law_edits") rfl)
  have g__law_figures := He.glo_ok X G (c.t.d.fact 22 (f := .glo "_law_figures") rfl)
  have g__law_name_is := He.glo_ok X G (c.t.d.fact 23 (f := .glo "_law_name_is") rfl)
  have g__law_words := He.glo_ok X G (c.t.d.fact 24 (f := .glo "_law_words") rfl)
  have g__law_row_spoilt := He.glo_ok X G (c.t.d.fact 25 (f := .glo "_law_row_spoilt") rfl)
  have g__law_spoilt := He.glo_ok X G (c.t.d.fact 26 (f := .glo "_law_spoilt") rfl)
  have g__law_text := He.glo_ok X G (c.t.d.fact 27 (f := .glo "_law_text") rfl)
  have g__law_is_row := He.glo_ok X G (c.t.d.fact 28 (f := .glo "_law_is_row") rfl)
  have g__law_due := He.glo_ok X G (c.t.d.fact 29 (f := .glo "_law_due") rfl)
  have g__law_right := He.glo_ok X G (c.t.d.fact 30 (f := .glo "_law_right") rfl)
  have g__law_is_far := He.glo_ok X G (c.t.d.fact 31 (f := .glo "_law_is_far") rfl)
  have g_law := He.glo_ok X G (c.t.d.fact 32 (f := .glo "law") rfl)
  have g_WayError := He.glo_ok X G (c.t.d.fact 33 (f := .glo "WayError") rfl)
  have g_NoMap := He.glo_ok X G (c.t.d.fact 34 (f := .glo "NoMap") rfl)
  have g_BadEdit := He.glo_ok X G (c.t.d.fact 35 (f := .glo "BadEdit") rfl)
  have g_NoTile := He.glo_ok X G (c.t.d.fact 36 (f := .glo "NoTile") rfl)
  have g_NoText := He.glo_ok X G (c.t.d.fact 37 (f := .glo "NoText") rfl)
  have g_FORMS := He.glo_ok X G (c.t.d.fact 41 (f := .glo "FORMS") rfl)
  have g_LENGTHS := He.glo_ok X G (c.t.d.fact 43 (f := .glo "LENGTHS") rfl)
  have hx : ∀ x ∈ (["WayError", "NoMap", "BadEdit", "NoTile", "NoText"] : List Str), mg x = some (.ref (He.ga K x)) := by
    intro x hx
    simp only [List.mem_cons, List.not_mem_nil, or_false] at hx
    rcases hx with rfl | rfl | rfl | rfl | rfl <;> assumption
  have B : Bt mg := ⟨He.free_ok X G (c.t.d.fact 49 (f := .free "isinstance") rfl), He.free_ok X G (c.t.d.fact 50 (f := .free "int") rfl), He.free_ok X G (c.t.d.fact 51 (f := .free "bool") rfl), He.free_ok X G (c.t.d.fact 52 (f := .free "str") rfl), He.free_ok X G (c.t.d.fact 53 (f := .free "tuple") rfl), He.free_ok X G (c.t.d.fact 54 (f := .free "list") rfl), He.free_ok X G (c.t.d.fact 55 (f := .free "dict") rfl), He.free_ok X G (c.t.d.fact 56 (f := .free "len") rfl), He.free_ok X G (c.t.d.fact 57 (f := .free "all") rfl), He.free_ok X G (c.t.d.fact 58 (f := .free "any") rfl), He.free_ok X G (c.t.d.fact 59 (f := .free "range") rfl), He.free_ok X G (c.t.d.fact 60 (f := .free "max") rfl), He.free_ok X G (c.t.d.fact 61 (f := .free "min") rfl), He.free_ok X G (c.t.d.fact 62 (f := .free "sum") rfl), He.free_ok X G (c.t.d.fact 63 (f := .free "sorted") rfl), He.free_ok X G (c.t.d.fact 64 (f := .free "enumerate") rfl), He.free_ok X G (c.t.d.fact 65 (f := .free "zip") rfl), He.free_ok X G (c.t.d.fact 66 (f := .free "repr") rfl), He.free_ok X G (c.t.d.fact 67 (f := .free "set") rfl), He.free_ok X G (c.t.d.fact 68 (f := .free "ValueError") rfl)⟩
  obtain ⟨es_FORMS, n_FORMS, kd_FORMS⟩ := c.t.tab 0 (t := (fun K => He.ga K "FORMS", ["road", "drop", "ban", "free", "undo"])) rfl
  have kt_FORMS : KTab K w (He.ga K "FORMS") tb_FORMS := ktabB_ok kd_FORMS (e 1 rfl)
  obtain ⟨es_LENGTHS, n_LENGTHS, kd_LENGTHS⟩ := c.t.tab 1 (t := (fun K => He.ga K "LENGTHS", ["road", "drop", "ban", "free", "undo"])) rfl
  have kt_LENGTHS : KTab K w (He.ga K "LENGTHS") tb_LENGTHS := ktabB_ok kd_LENGTHS (e 2 rfl)
  have T : Txt w K mg := ⟨fldB_ok (fun p hp => hx p (by simp only [cs_row, List.mem_cons, List.not_mem_nil, or_false] at hp; rcases hp with rfl <;> simp)) (e 9 rfl),
    ⟨_, g_BadEdit, isfB_ok (fun p hp => hx p.1 (by simp only [xs_BadEdit, List.mem_cons, List.not_mem_nil, or_false] at hp; rcases hp with rfl | rfl | rfl | rfl | rfl <;> simp)) (e 10 rfl)⟩,
    ⟨_, g_NoMap, isfB_ok (fun p hp => hx p.1 (by simp only [xs_NoMap, List.mem_cons, List.not_mem_nil, or_false] at hp; rcases hp with rfl | rfl | rfl | rfl | rfl <;> simp)) (e 11 rfl)⟩,
    ⟨_, g_NoText, isfB_ok (fun p hp => hx p.1 (by simp only [xs_NoText, List.mem_cons, List.not_mem_nil, or_false] at hp; rcases hp with rfl | rfl | rfl | rfl | rfl <;> simp)) (e 12 rfl)⟩,
    ⟨_, g_NoTile, isfB_ok (fun p hp => hx p.1 (by simp only [xs_NoTile, List.mem_cons, List.not_mem_nil, or_false] at hp; rcases hp with rfl | rfl | rfl | rfl | rfl <;> simp)) (e 13 rfl)⟩,
    isfB_ok (fun p hp => hx p.1 (by simp only [xs_ValueError, List.mem_cons, List.not_mem_nil, or_false] at hp; rcases hp with rfl | rfl | rfl | rfl | rfl <;> simp)) (e 14 rfl),
    He.str_ok X G (c.t.d.fact 40 (f := .str "FIGURES" "0123456789") rfl),
    ⟨_, g_FORMS, kt_FORMS⟩,
    He.int_ok X G (c.t.d.fact 42 (f := .int "GREATEST_PLACE" 999) rfl),
    ⟨_, g_LENGTHS, kt_LENGTHS⟩,
    He.int_ok X G (c.t.d.fact 44 (f := .int "LONGEST" 8) rfl),
    He.int_ok X G (c.t.d.fact 45 (f := .int "MOST_COST_edits" 1000000) rfl),
    He.int_ok X G (c.t.d.fact 46 (f := .int "MOST_COST_maps" 1000000000) rfl),
    He.int_ok X G (c.t.d.fact 47 (f := .int "MOST_STAMP" 1000000) rfl),
    He.str_ok X G (c.t.d.fact 48 (f := .str "SIGNS" "abcdefghijklmnopqrstuvwxyz0123456789") rfl),
    ⟨_, g_WayError, exmB_ok (fun p hp => hx p.1 (by simp only [xs_WayError, List.mem_cons, List.not_mem_nil, or_false] at hp; rcases hp with rfl | rfl | rfl | rfl | rfl <;> simp)) (e 15 rfl)⟩⟩
  obtain ⟨fd_is_within, D_is_within⟩ := c.t.d.def_ 0 (d := dD_is_within) rfl
  obtain ⟨fd_is_name, D_is_name⟩ := c.t.d.def_ 1 (d := dD_is_name) rfl
  obtain ⟨fd_is_place, D_is_place⟩ := c.t.d.def_ 2 (d := dD_is_place) rfl
  obtain ⟨fd_is_road, D_is_road⟩ := c.t.d.def_ 3 (d := dD_is_road) rfl
  obtain ⟨fd_is_stamp, D_is_stamp⟩ := c.t.d.def_ 4 (d := dD_is_stamp) rfl
  obtain ⟨fd_is_what, D_is_what⟩ := c.t.d.def_ 5 (d := dD_is_what) rfl
  obtain ⟨fd_is_edit, D_is_edit⟩ := c.t.d.def_ 6 (d := dD_is_edit) rfl
  obtain ⟨fd_need_edits, D_need_edits⟩ := c.t.d.def_ 7 (d := dD_need_edits) rfl
  obtain ⟨fd_is_figures, D_is_figures⟩ := c.t.d.def_ 8 (d := dD_is_figures) rfl
  obtain ⟨fd_rows_of, D_rows_of⟩ := c.t.d.def_ 9 (d := dD_rows_of) rfl
  obtain ⟨fd_told_by, D_told_by⟩ := c.t.d.def_ 10 (d := dD_told_by) rfl
  obtain ⟨fd_row_text, D_row_text⟩ := c.t.d.def_ 11 (d := dD_row_text) rfl
  obtain ⟨fd_edit_told, D_edit_told⟩ := c.t.d.def_ 12 (d := dD_edit_told) rfl
  obtain ⟨fd_edits_text, D_edits_text⟩ := c.t.d.def_ 13 (d := dD_edits_text) rfl
  obtain ⟨fd_read_edits, D_read_edits⟩ := c.t.d.def_ 14 (d := dD_read_edits) rfl
  obtain ⟨fd__law_mixed, D__law_mixed⟩ := c.t.d.def_ 15 (d := dD__law_mixed) rfl
  obtain ⟨fd__law_next, D__law_next⟩ := c.t.d.def_ 16 (d := dD__law_next) rfl
  obtain ⟨fd__law_names, D__law_names⟩ := c.t.d.def_ 17 (d := dD__law_names) rfl
  obtain ⟨fd__law_pick, D__law_pick⟩ := c.t.d.def_ 18 (d := dD__law_pick) rfl
  obtain ⟨fd__law_places, D__law_places⟩ := c.t.d.def_ 19 (d := dD__law_places) rfl
  obtain ⟨fd__law_what, D__law_what⟩ := c.t.d.def_ 20 (d := dD__law_what) rfl
  obtain ⟨fd__law_edits, D__law_edits⟩ := c.t.d.def_ 21 (d := dD__law_edits) rfl
  obtain ⟨fd__law_figures, D__law_figures⟩ := c.t.d.def_ 22 (d := dD__law_figures) rfl
  obtain ⟨fd__law_name_is, D__law_name_is⟩ := c.t.d.def_ 23 (d := dD__law_name_is) rfl
  obtain ⟨fd__law_words, D__law_words⟩ := c.t.d.def_ 24 (d := dD__law_words) rfl
  obtain ⟨fd__law_row_spoilt, D__law_row_spoilt⟩ := c.t.d.def_ 25 (d := dD__law_row_spoilt) rfl
  obtain ⟨fd__law_spoilt, D__law_spoilt⟩ := c.t.d.def_ 26 (d := dD__law_spoilt) rfl
  obtain ⟨fd__law_text, D__law_text⟩ := c.t.d.def_ 27 (d := dD__law_text) rfl
  obtain ⟨fd__law_is_row, D__law_is_row⟩ := c.t.d.def_ 28 (d := dD__law_is_row) rfl
  obtain ⟨fd__law_due, D__law_due⟩ := c.t.d.def_ 29 (d := dD__law_due) rfl
  obtain ⟨fd__law_right, D__law_right⟩ := c.t.d.def_ 30 (d := dD__law_right) rfl
  obtain ⟨fd__law_is_far, D__law_is_far⟩ := c.t.d.def_ 31 (d := dD__law_is_far) rfl
  obtain ⟨fd_law, D_law⟩ := c.t.d.def_ 32 (d := dD_law) rfl
  obtain ⟨fi_BadEdit, I_BadEdit⟩ := c.t.d.def_ 33 (d := dI_BadEdit) rfl
  have z_BadEdit : ∀ base : Heap, Rz1 P w K mg base "BadEdit" "at" := fun base => by
    have S : FnScope ["self", "at"] ["self", "at"] (defScope si_BadEdit) := ⟨rfl, rfl, rfl, by decide +kernel, rfl, by decide +kernel, by decide +kernel⟩
    have F : FunD K "__init__" "BadEdit.__init__" (defArgs si_BadEdit) (defBody si_BadEdit) (defScope si_BadEdit) [] [] (He.ma K (He.ga K "BadEdit") "__init__") fi_BadEdit := I_BadEdit
    have b := FunD.bindsN (ps := ["self", "at"]) F fun _ _ _ _ _ _ us hl => match us, hl with | [_, _], _ => rfl
    have oc := oexB_ok (e 3 rfl)
    have iC := He.eqO_ok (He.ba (c.t.d.fact 38 (f := .meth "BadEdit" "__init__") rfl)).1
    exact ⟨⟨He.ga K "BadEdit", _, _, _, oc, iC, of_decide_eq_true (e 4 rfl), ok_xinit (p5 := ⟨0, 0, 0, 0⟩) (FunD.toFun F) S oc (He.eqO_ok (e 5 rfl)) rfl (by first | exact Or.inl rfl | exact Or.inr (Or.inl rfl)) (by first | exact Or.inl rfl | exact Or.inr (Or.inl rfl)) (by decide) (by decide) (fun _ => rfl), b, g_BadEdit⟩⟩
  obtain ⟨fi_NoText, I_NoText⟩ := c.t.d.def_ 34 (d := dI_NoText) rfl
  have z_NoText : ∀ base : Heap, Rz1 P w K mg base "NoText" "row" := fun base => by
    have S : FnScope ["self", "row"] ["self", "row"] (defScope si_NoText) := ⟨rfl, rfl, rfl, by decide +kernel, rfl, by decide +kernel, by decide +kernel⟩
    have F : FunD K "__init__" "NoText.__init__" (defArgs si_NoText) (defBody si_NoText) (defScope si_NoText) [] [] (He.ma K (He.ga K "NoText") "__init__") fi_NoText := I_NoText
    have b := FunD.bindsN (ps := ["self", "row"]) F fun _ _ _ _ _ _ us hl => match us, hl with | [_, _], _ => rfl
    have oc := oexB_ok (e 6 rfl)
    have iC := He.eqO_ok (He.ba (c.t.d.fact 39 (f := .meth "NoText" "__init__") rfl)).1
    exact ⟨⟨He.ga K "NoText", _, _, _, oc, iC, of_decide_eq_true (e 7 rfl), ok_xinit (p5 := ⟨0, 0, 0, 0⟩) (FunD.toFun F) S oc (He.eqO_ok (e 8 rfl)) rfl (by first | exact Or.inl rfl | exact Or.inr (Or.inl rfl)) (by first | exact Or.inl rfl | exact Or.inr (Or.inl rfl)) (by decide) (by decide) (fun _ => rfl), b, g_NoText⟩⟩
  have efa := hfa.symm.trans g_law
  cases efa
  refine ⟨noListB_ok (e 0 rfl), fd_law, fun s v => FunD.bindsA (ps := ["_law_script"]) D_law (fun _ _ _ _ _ _ us hl => match us, hl with | [_], _ => rfl) s [v] rfl, fun base _ _ => ?_⟩
  have c_is_within := ok_is_within (P := P) (w := w) (K := K) (mg := mg) (base := base) ⟨_, fd_is_within, ⟨D_is_within, g_is_within⟩⟩ B T 
  have c_is_name := ok_is_name (P := P) (w := w) (K := K) (mg := mg) (base := base) ⟨_, fd_is_name, ⟨D_is_name, g_is_name⟩⟩ B T 
  have c_is_place := ok_is_place (P := P) (w := w) (K := K) (mg := mg) (base := base) ⟨_, fd_is_place, ⟨D_is_place, g_is_place⟩⟩ B T c_is_within
  have c_is_road := ok_is_road (P := P) (w := w) (K := K) (mg := mg) (base := base) ⟨_, fd_is_road, ⟨D_is_road, g_is_road⟩⟩ B T c_is_within c_is_place
  have c_is_stamp := ok_is_stamp (P := P) (w := w) (K := K) (mg := mg) (base := base) ⟨_, fd_is_stamp, ⟨D_is_stamp, g_is_stamp⟩⟩ B T 
  have c_is_what := ok_is_what (P := P) (w := w) (K := K) (mg := mg) (base := base) ⟨_, fd_is_what, ⟨D_is_what, g_is_what⟩⟩ B T c_is_name c_is_road c_is_stamp
  have c_is_edit := ok_is_edit (P := P) (w := w) (K := K) (mg := mg) (base := base) ⟨_, fd_is_edit, ⟨D_is_edit, g_is_edit⟩⟩ B T c_is_name c_is_stamp c_is_what
  have c_need_edits := ok_need_edits (P := P) (w := w) (K := K) (mg := mg) (base := base) ⟨_, fd_need_edits, ⟨D_need_edits, g_need_edits⟩⟩ B T c_is_edit (z_BadEdit base)
  have c_is_figures := ok_is_figures (P := P) (w := w) (K := K) (mg := mg) (base := base) ⟨_, fd_is_figures, ⟨D_is_figures, g_is_figures⟩⟩ B T 
  have c_rows_of := ok_rows_of (P := P) (w := w) (K := K) (mg := mg) (base := base) ⟨_, fd_rows_of, ⟨D_rows_of, g_rows_of⟩⟩ B T (z_NoText base)
  have c_told_by := ok_told_by (P := P) (w := w) (K := K) (mg := mg) (base := base) ⟨_, fd_told_by, ⟨D_told_by, g_told_by⟩⟩ B T c_is_name c_is_figures
  have c_row_text := ok_row_text (P := P) (w := w) (K := K) (mg := mg) (base := base) ⟨_, fd_row_text, ⟨D_row_text, g_row_text⟩⟩ B T 
  have c_edit_told := ok_edit_told (P := P) (w := w) (K := K) (mg := mg) (base := base) ⟨_, fd_edit_told, ⟨D_edit_told, g_edit_told⟩⟩ B T c_told_by
  have c_edits_text := ok_edits_text (P := P) (w := w) (K := K) (mg := mg) (base := base) ⟨_, fd_edits_text, ⟨D_edits_text, g_edits_text⟩⟩ B T c_need_edits c_row_text
  have c_read_edits := ok_read_edits (P := P) (w := w) (K := K) (mg := mg) (base := base) ⟨_, fd_read_edits, ⟨D_read_edits, g_read_edits⟩⟩ B T c_is_edit c_rows_of c_edit_told (z_NoText base)
  have c__law_mixed := ok__law_mixed (P := P) (w := w) (K := K) (mg := mg) (base := base) ⟨_, fd__law_mixed, ⟨D__law_mixed, g__law_mixed⟩⟩ B T 
  have c__law_next := ok__law_next (P := P) (w := w) (K := K) (mg := mg) (base := base) ⟨_, fd__law_next, ⟨D__law_next, g__law_next⟩⟩ B T c__law_mixed
  have c__law_names := ok__law_names (P := P) (w := w) (K := K) (mg := mg) (base := base) ⟨_, fd__law_names, ⟨D__law_names, g__law_names⟩⟩ B T c__law_next
  have c__law_pick := ok__law_pick (P := P) (w := w) (K := K) (mg := mg) (base := base) ⟨_, fd__law_pick, ⟨D__law_pick, g__law_pick⟩⟩ B T c__law_next
  have c__law_places := ok__law_places (P := P) (w := w) (K := K) (mg := mg) (base := base) ⟨_, fd__law_places, ⟨D__law_places, g__law_places⟩⟩ B T 
  have c__law_what := ok__law_what (P := P) (w := w) (K := K) (mg := mg) (base := base) ⟨_, fd__law_what, ⟨D__law_what, g__law_what⟩⟩ B T c__law_next c__law_pick c__law_places
  have c__law_edits := ok__law_edits (P := P) (w := w) (K := K) (mg := mg) (base := base) ⟨_, fd__law_edits, ⟨D__law_edits, g__law_edits⟩⟩ B T c__law_next c__law_names c__law_pick c__law_what
  have c__law_figures := ok__law_figures (P := P) (w := w) (K := K) (mg := mg) (base := base) ⟨_, fd__law_figures, ⟨D__law_figures, g__law_figures⟩⟩ B T 
  have c__law_name_is := ok__law_name_is (P := P) (w := w) (K := K) (mg := mg) (base := base) ⟨_, fd__law_name_is, ⟨D__law_name_is, g__law_name_is⟩⟩ B T 
  have c__law_words := ok__law_words (P := P) (w := w) (K := K) (mg := mg) (base := base) ⟨_, fd__law_words, ⟨D__law_words, g__law_words⟩⟩ B T c__law_figures c__law_name_is
  have c__law_row_spoilt := ok__law_row_spoilt (P := P) (w := w) (K := K) (mg := mg) (base := base) ⟨_, fd__law_row_spoilt, ⟨D__law_row_spoilt, g__law_row_spoilt⟩⟩ B T c__law_next c__law_pick
  have c__law_spoilt := ok__law_spoilt (P := P) (w := w) (K := K) (mg := mg) (base := base) ⟨_, fd__law_spoilt, ⟨D__law_spoilt, g__law_spoilt⟩⟩ B T c__law_next c__law_row_spoilt
  have c__law_text := ok__law_text (P := P) (w := w) (K := K) (mg := mg) (base := base) ⟨_, fd__law_text, ⟨D__law_text, g__law_text⟩⟩ B T 
  have c__law_is_row := ok__law_is_row (P := P) (w := w) (K := K) (mg := mg) (base := base) ⟨_, fd__law_is_row, ⟨D__law_is_row, g__law_is_row⟩⟩ B T c__law_words
  have c__law_due := ok__law_due (P := P) (w := w) (K := K) (mg := mg) (base := base) ⟨_, fd__law_due, ⟨D__law_due, g__law_due⟩⟩ B T c__law_is_row
  have c__law_right := ok__law_right (P := P) (w := w) (K := K) (mg := mg) (base := base) ⟨_, fd__law_right, ⟨D__law_right, g__law_right⟩⟩ B T c_edits_text c_read_edits c__law_due
  have c__law_is_far := ok__law_is_far (P := P) (w := w) (K := K) (mg := mg) (base := base) ⟨_, fd__law_is_far, ⟨D__law_is_far, g__law_is_far⟩⟩ B T c__law_figures
  exact fn_law ⟨D_law, g_law⟩ B T c__law_next c__law_pick c__law_edits c__law_spoilt c__law_text c__law_right c__law_is_far
end TD.K75


end
open PySem PySem.W PySem.Calls PyProof.Rows in
set_option maxRecDepth 100000 in
set_option maxHeartbeats 0 in
theorem PySem.Challenge.cw_waysheld_k75_edits_read_or_refused_holds : PySem.Challenge.rw_waysheld_k75_edits_read_or_refused.Holds := by
  w_on; o_law
  refine HandSHeadRun.head_any (r := OpenLaw.row PySem.Challenge.rw_waysheld_k75_edits_read_or_refused) (q := view (OpenLaw.row PySem.Challenge.rw_waysheld_k75_edits_read_or_refused).prog [53]) (H := TD.K75.hk) (ob := TD.K75.ob) (M := 3000) (loose := TD.K75.names) (d := HandSHeadRun.topDef (OpenLaw.row PySem.Challenge.rw_waysheld_k75_edits_read_or_refused).prog 53) (kwd := []) TD.K75.ob_eq
    (by kernel_rfl) (fun s => by kernel_rfl) TD.K75.run (by kernel_rfl) (by kernel_rfl) (by kernel_rfl) (by rfl) (by first | assumption | decide +kernel) (by decide +kernel) ⟨rfl, rfl, rfl, rfl, rfl, by decide +kernel⟩ ?hw ?hc
  case hw => w_witness2
  case hc =>
    refine TD.walk_ofG (l := PySem.Challenge.rw_waysheld_k75_edits_read_or_refused) (n := 63) (k := 9) (x := "_law_script") rfl (by decide) (by kernel_rfl) ⟨rfl, by decide, by decide⟩ ?F
    intro w mg fa h Y G hmg0
    obtain ⟨K, KX, c⟩ := Y
    have hmg : mg ("law" : PySem.Str) = some (.ref fa) := by
      have e : (HandSHeadRun.topDef (OpenLaw.row PySem.Challenge.rw_waysheld_k75_edits_read_or_refused).prog 53).name = ("law" : PySem.Str) := by kernel_rfl
      rw [← e]
      exact hmg0
    obtain ⟨hno, fd, hb, hF⟩ := TD.K75.facts (P := (PySem.Challenge.rw_waysheld_k75_edits_read_or_refused).prog) (w := w) KX G hmg c
    exact ⟨K, fd, TD.K75.F_law, KX, hno, hb, TD.K75.law_true, hF⟩

